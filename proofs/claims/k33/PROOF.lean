import PyProof.Rows.All
import Wide.All
import OpenK.AllK
import Wide.FinOn
import KE.KStateDown
import HandS.ForMost
import HandS.Exc
import HandS.Wide
import HandS.WideBits
import HandS.IsInst
import HandS.Style
import HandS.RaiseMore
import HandS.Defaults
import HandS.Evl
import HandS.EndBits
import HandS.Words
import HandS.WordsExc
import HandS.Head0
import HandS.Head1
import HandS.Head2
import HandS.HeadEnd
import HandS.HeadHook1
import HandS.HeadHook2
import PyProof.FString3
import HandS.FStr
import PyProof.Rows.StrIntSpec
import HandS.HeadHook3
import HandS.Star
import HandS.Text
import HandS.Walk
import KE.GoesMore
import PyProof.LongRange
import HandS.Conv
import PyProof.StrLawsRepr
import PyProof.InstSpecial
import HandS.SetBool
import HandS.Strs
import HandS.SortInts
import HandS.OwnEq
import KE.KFmtOwn
import PyProof.InstNe
import OpenK.KOps
import HandS.ExcInit
import HandS.HotCalls
import HandS.ExcIs
import HandS.ExcField
import KE.KTryMore
import KE.KExcInit
import HandS.SetFor
import HandS.EndTab
import HandS.HeadHook4
import HandS.DeepEq
import HandS.Zip
import HandS.TupAny
import HandS.Replace
import PyProof.MeetsIn
import KE.KMulAny
import HandS.ClsMeth
import HandS.HeadNt
import PyProof.NeKinds
import HandS.Deep
import PyProof.Rows.Range3
import PyProof.InstEq
import HandS.More
import HandS.ExcOwn
import HandS.MakeKwOnly
import HandS.Dict
import HandS.ReplaceLit
import HandS.Small
import HandS.NoneIn
import KE.GoesZip
import KE.GoesEnum
import KE.KDictList
import HandS.TupSets
import HandS.CallLocal
import PySem.Challenge.RW_sizestacks_k33_comparing_refused
set_option Elab.async false
set_option linter.all false
set_option maxRecDepth 100000
set_option maxHeartbeats 4000000
set_option exponentiation.threshold 20000
/-! Own base: a def by its promise, a few rules more. -/
namespace Sz
open PySem PySem.Spec PyProof.Rows L2

/-- a def of the text, by its name -/
def DefAt (K : PySem.W.Frag) (mg : Str → Option Value) (x : Str) (st : Stmt) : Prop :=
  ∃ f fd, FunD K x x (defArgs st) (defBody st) (defScope st) [] [] f fd ∧ mg x = some (.ref f)

/-- the def named x keeps the promise sp -/
structure Prom (P : Program) (w : World) (K : PySem.W.Frag) (mg : Str → Option Value) (base : Heap) (CX : CXT) (k : Nat) (x : Str) (st : Stmt) (ps : List Str) (sp : Sp) : Prop where
  ex : ∃ f fd, FnOk P w K mg base CX k f fd ps sp ∧ mg x = some (.ref f) ∧ FunD K x x (defArgs st) (defBody st) (defScope st) [] [] f fd ∧ Binds K fd ps []

section
variable {P : Program} {w : World} {K : PySem.W.Frag} {mg : Str → Option Value} {base : Heap}
theorem Prom.of {x : Str} {st : Stmt} {ps N : List Str} {sp : Sp} {k : Nat} (D : DefAt K mg x st) (S : FnScope N ps (defScope st)) (len : ∀ vs H Q E, sp vs H Q E → vs.length = ps.length)
    (hb : ∀ (kV doc pm : Value) (an : Option Addr) (cdv ct : Value) (us : List Value), us.length = ps.length → bindArgs (PySem.W.fnOf x x (defArgs st) (defBody st) (defScope st) .none kV doc pm an cdv ct) ⟨us, []⟩ = pure (ps.zip us))
    (hbody : ∀ (f : Addr) (cdv : Value) (A : Around) (outer : List Env) (s : Shared) (H : Hp) (vs : List V) (Q : VK) (E : XK), Room k (A.deeper (envOfC x (defScope st) s.heap.objs.size f cdv)) → sp vs H Q E →
      ∃ t, PSs (cxOf CX0 P w K mg base N x (defScope st) f cdv A outer s H E).nox (defBody st) t ∧ t { nx := fun _ H' => Q .non H', rt := Q } (start N vs) H) :
    Prom P w K mg base CX0 (k + 1) x st ps sp := by
  obtain ⟨f, fd, F, hm⟩ := D
  refine ⟨f, fd, F.ok S len (fun cdv A outer s H vs Q E hr hs => ?_), hm, F, F.bindsN hb⟩
  obtain ⟨t, h1, h2⟩ := hbody f cdv A outer s H vs Q E hr hs
  exact ⟨t, h1.nox, h2⟩
end

section
variable {X : Cx} {CX : CXT} {k : Nat} {x : Str} {st : Stmt} {ps : List Str} {sp : Sp} {E : XK} {e : Expr} {es : List Expr} {t tk : TA} {p pos : Pos} {kws : List Keyword} {ks : List Str}
theorem pe_callP (G : Prom X.prog X.w X.K X.mg X.base CX k x st ps sp) (hr : Room k X.A) (hg : Gl X x) (hx : Passes CX X E) (ha : PA X (e :: es) t)
    (hdb : (x == ("__debug__" : Str)) = false := by decide) (he : starEach (e :: es) X.env = (false, eval e X.env) :: starEach es X.env := by rfl) (hpl : (backTo pos (starEach es X.env)).any (·.1) = false := by rfl) :
    PE X (.Call (.Name x p) (e :: es) [] pos) (tCall sp [] E t) := by
  obtain ⟨f, fd, F, hm, D, hb⟩ := G.ex
  exact pe_call F hr hg hm D.kp hb .nil hx ha hdb he hpl
/-- f(k = v, ..), keywords alone -/
theorem pe_callKP {g : List Value → List Value → List Value} {gV : List V → List V → List V} (G : Prom X.prog X.w X.K X.mg X.base CX k x st ps sp) (hr : Room k X.A) (hg : Gl X x) 
    (hb : ∀ fd f, FunD X.K x x (defArgs st) (defBody st) (defScope st) [] [] f fd → KBinds X.K fd ps ks g gV) (hx : Passes CX X E)
    (hkw : PK X kws tk) (hall : (backToKw pos (keywordEach kws X.env)).all (·.1.isSome) = true := by rfl) (hks : (backToKw pos (keywordEach kws X.env)).filterMap (·.1) = ks := by rfl)
    (hdb : (x == ("__debug__" : Str)) = false := by decide)
    (hpl : ((backTo pos (starEach [] X.env)).any (·.1) || (backToKw pos (keywordEach kws X.env)).any (·.1.isNone)) = false := by rfl) :
    PE X (.Call (.Name x p) [] kws pos) (tCallK sp gV E tNil tk) := by
  obtain ⟨f, fd, F, hm, D, _⟩ := G.ex
  have hb := hb fd f D
  refine ⟨fun pins s σ H Q I h => ?_⟩
  refine wpAny_Call_Name_kw (ld_glob I hg hm ?_ hdb)
  refine PySem.W.callWith_KW0 (h₀ := X.base) I.ok.mod.kin D.kp hall (thn (hkw.run pos pins s σ H _ I h) fun ws s2 z => ?_) hpl
  obtain ⟨zs, H2, I2, rz, q2⟩ := z
  refine ⟨I2.kIn, ?_⟩
  rw [hks]
  exact run_fnk F hr hb hx I2 .nil rz q2
/-- the keywords' values put in the parameters' order -/
def perm {α : Type} (ix : List Nat) (us ws : List α) : List α := match us with
  | [] => if ws.length = ix.length then ix.filterMap fun i => ws[i]? else []
  | _ :: _ => []
theorem perm_vals {ix : List Nat} {vs zs : List V} {us ws : List Value} (r : Vals vs us) (z : Vals zs ws) : Vals (perm ix vs zs) (perm ix us ws) := by
  cases r with
  | cons _ _ => exact .nil
  | nil =>
    show Vals (if zs.length = ix.length then _ else _) (if ws.length = ix.length then _ else _)
    rw [z.length]
    by_cases c : ws.length = ix.length
    · rw [if_pos c, if_pos c]
      clear c
      induction ix with
      | nil => exact .nil
      | cons i ix ih =>
        rw [List.filterMap_cons, List.filterMap_cons]
        cases e : zs[i]? with
        | none =>
          rw [z.none_of e]
          exact ih
        | some v =>
          obtain ⟨u, hu, rv⟩ := z.get e
          rw [hu]
          exact .cons rv ih
    · rw [if_neg c, if_neg c]
      exact .nil
theorem kb_of {K : PySem.W.Frag} (ix : List Nat) (hne : 0 < ps.length)
    (h : ∀ (kV doc pm : Value) (an : Option Addr) (cdv ct : Value) (ws : List Value), ws.length = ix.length → bindArgs (PySem.W.fnOf x x (defArgs st) (defBody st) (defScope st) .none kV doc pm an cdv ct) ⟨[], ks.zip ws⟩ = pure (ps.zip (perm ix [] ws))) :
    ∀ fd f, FunD K x x (defArgs st) (defBody st) (defScope st) [] [] f fd → KBinds K fd ps ks (perm ix) (perm ix) := fun fd f F => by
  obtain ⟨oc, od, dV, kV, doc, pm, an, cdv, ct, osl, rfl, lk, hcd, hD, hK⟩ := F.ex
  rcases hD with ⟨_, rfl⟩ | ⟨e, _⟩
  · refine ⟨fun s us ws _ hl => ?_, fun r z => perm_vals r z⟩
    cases us with
    | cons u us =>
      have e0 : (perm ix (u :: us) ws).length = 0 := rfl
      omega
    | nil =>
      by_cases c : ws.length = ix.length
      · exact .of_eq (h kV doc pm an cdv ct ws c)
      · have e0 : perm ix [] ws = [] := if_neg c
        rw [e0] at hl
        simp at hl
        omega
  · exact absurd rfl e
/-- a constant of the module -/
theorem pe_gint {v : Int} (h : ∃ u, X.mg x = some (.int v u)) (hg : Gl X x := by rfl) (hd : (x == ("__debug__" : Str)) = false := by decide) : PE X (.Name x pos) (tC (.int v)) := by
  obtain ⟨u, hm⟩ := h
  exact pe_glob hg hm ⟨_, rfl⟩ hd
theorem op_isnotBl : OpR X (compareOp .IsNot) (fun x y H Q => ∃ b : Bool, y = .bl b ∧ Q (.bl (!decide (x = .bl b))) H) := by
  intro pins s σ H x y v u Q I rx ry h
  obtain ⟨b, rfl, q⟩ := h
  cases (show u = Value.bool b from ry)
  have key : plainIs v (Value.bool b) = true ∧ (v = Value.bool b ↔ x = .bl b) := by
    cases x with
    | non => cases (show v = Value.none from rx); exact ⟨rfl, by constructor <;> intro z <;> cases z⟩
    | bl c => cases (show v = Value.bool c from rx); exact ⟨rfl, by constructor <;> intro z <;> cases z <;> rfl⟩
    | int i => obtain ⟨t, rfl⟩ := (show ∃ t, v = Value.int i t from rx); exact ⟨rfl, by constructor <;> intro z <;> cases z⟩
    | str i => obtain ⟨t, rfl⟩ := (show ∃ t, v = Value.str i t from rx); exact ⟨rfl, by constructor <;> intro z <;> cases z⟩
    | byt i => obtain ⟨t, rfl⟩ := (show ∃ t, v = Value.bytes i t from rx); exact ⟨rfl, by constructor <;> intro z <;> cases z⟩
    | flt i => obtain ⟨t, rfl⟩ := (show ∃ t, v = Value.float i t from rx); exact ⟨rfl, by constructor <;> intro z <;> cases z⟩
    | ref a => cases (show v = Value.ref a from rx); exact ⟨rfl, by constructor <;> intro z <;> cases z⟩
    | ty n => cases (show v = Value.type n from rx); exact ⟨rfl, by constructor <;> intro z <;> cases z⟩
  by_cases e : x = .bl b
  · have ev := key.2.mpr e
    subst ev
    exact wpAny_isNot_self rfl ⟨.bl false, H, I, rfl, by simpa [e] using q⟩
  · exact wpAny_isNot_other key.1 (fun z => e (key.2.mp z)) ⟨.bl true, H, I, rfl, by simpa [e] using q⟩
/-- repr of a flat value -/
def flatShown : V → Option Str
  | .non => some "None"
  | .bl b => some (if b then "True" else "False")
  | .int i => if i.natAbs.log2 < 1920 then some (toString i) else none
  | _ => none
theorem cr_repr : CallR X (.builtin "repr") (fun xs H Q => ∃ v z, xs = [v] ∧ flatShown v = some z ∧ Q (.str z) H) := by
  intro pins s σ H xs us Q I r h
  obtain ⟨v, z, rfl, hz, q⟩ := h
  obtain ⟨u, rfl, ru⟩ := vals1 r
  cases v with
  | non =>
    cases (show u = Value.none from ru)
    obtain rfl : ("None" : Str) = z := Option.some.inj hz
    exact PySem.P.repr_of_none ⟨.str _, H, I.tok _, ⟨_, rfl⟩, q⟩
  | bl b =>
    cases (show u = Value.bool b from ru)
    obtain rfl : (if b then "True" else "False" : Str) = z := Option.some.inj hz
    exact PySem.P.repr_of_bool ⟨.str _, H, I.tok _, ⟨_, rfl⟩, q⟩
  | int i =>
    obtain ⟨t, rfl⟩ := (show ∃ t, u = Value.int i t from ru)
    have hz2 : (if i.natAbs.log2 < 1920 then some (toString i : Str) else none) = some z := hz
    by_cases c : i.natAbs.log2 < 1920
    · rw [if_pos c] at hz2
      obtain rfl := Option.some.inj hz2
      exact PySem.P.repr_of_int c ⟨.str _, H, I.tok _, ⟨_, rfl⟩, q⟩
    · rw [if_neg c] at hz2
      cases hz2
  | _ => cases hz
/-- a power of any size that the model takes -/
def CPowW (i j : Int) : Prop := 1 < i ∧ 0 < j ∧ ∃ n : Nat, i.natAbs < 2 ^ n ∧ (n : Int) * j ≤ 134217728
theorem op_powW : OpR X (binaryOp .Pow) (rI CPowW fun i j => .int (i ^ j.toNat)) := opI fun i j t u s Q E hc q => by
  obtain ⟨h1, h2, n, h3, h4⟩ := hc
  have hb : ¬ Builtin.Int.intTooBig (((Builtin.Int.intBits i : Nat) : Int) * j) = true := by
    have e : bitsLine = 134217728 := by decide
    have b := PyProof.Rows.intBits_le h3
    have m : ((Builtin.Int.intBits i : Nat) : Int) * j ≤ (n : Int) * j := Int.mul_le_mul_of_nonneg_right (by omega) (by omega)
    unfold Builtin.Int.intTooBig
    rw [decide_eq_true_eq, e]
    omega
  refine PySem.AutoIntOps.pow_4 (by omega) (by simpa using (show ¬ j = 0 by omega)) (by simpa using (show ¬ i = 0 ∧ ¬ i = 1 by omega)) (by simpa using (show ¬ i = -1 by omega)) hb ?_
  exact q
/-- divmod by a positive number of at most 30 figures -/
theorem divp_small {i j : Int} (h : 0 < j) (h2 : j ≤ 1000000000000000000000000000000) : CDivP i j := by
  refine ⟨h, PyProof.noPylong_of_log2 ?_⟩
  have h3 : j.natAbs < 2 ^ 200 := Nat.lt_of_le_of_lt (show j.natAbs ≤ 1000000000000000000000000000000 by omega) (by decide)
  exact Nat.lt_of_lt_of_le (PySem.Flt.log2_lt_of (by decide) h3) (by decide)
end
/-! ### what an if's test says -/
theorem ifd {c A B : Prop} [Decidable c] (h1 : c → A) (h2 : ¬ c → B) : if decide c = true then A else B := by
  by_cases h : c
  · rw [decide_eq_true h, if_pos rfl]; exact h1 h
  · rw [decide_eq_false h, if_neg Bool.false_ne_true]; exact h2 h
theorem ifd_pos {c A B : Prop} [Decidable c] (h : c) (hA : A) : if decide c = true then A else B := by
  rw [decide_eq_true h, if_pos rfl]; exact hA
theorem ifd_neg {c A B : Prop} [Decidable c] (h : ¬ c) (hB : B) : if decide c = true then A else B := by
  rw [decide_eq_false h, if_neg Bool.false_ne_true]; exact hB
theorem ifn {c A B : Prop} [Decidable c] (h1 : ¬ c → A) (h2 : c → B) : if (!decide c) = true then A else B := by
  by_cases h : c
  · rw [decide_eq_true h]; exact h2 h
  · rw [decide_eq_false h]; exact h1 h
/-- all but p stands as it stood -/
def Kp (p : Addr) (H H' : Hp) : Prop := ∀ b o, b ≠ p → H b = some o → H' b = some o
theorem Kp.refl (p : Addr) (H : Hp) : Kp p H H := fun _ _ _ h => h
theorem Kp.trans {p : Addr} {H H1 H2 : Hp} (a : Kp p H H1) (b : Kp p H1 H2) : Kp p H H2 := fun c o n h => b c o n (a c o n h)
theorem Kp.set {p : Addr} {H H' : Hp} {o : HO} (a : Kp p H H') : Kp p H (L2.upd H' p o) := fun b u n h => by
  rw [upd_ne n]
  exact a b u n h
theorem Kp.new {p q : Addr} {H H' : Hp} {o : HO} (a : Kp p H H') (h : H' q = none) : Kp p H (upd H' q o) := fun b u n e => by
  have e2 := a b u n e
  rw [upd_ne (ne_of_none e2 h)]
  exact e2
end Sz
/-! f"{x:>12}" of a number, " " * n -/
namespace Sz
open PySem PySem.Spec PyProof.Rows L2 PySem.Builtin PySem.Builtin.Float
def f12 : FormatSpec := { align := 62, width := some 12 }
theorem parse12 : parseFormatSpec (Str.ofString ">12").cps.toList "int" 62 = .ok f12 := by kernel_rfl
theorem gives12 (a : Int) (t u : Tok) (hd : a.natAbs.log2 < 1920) : Gives (Builtin.«int.__format__» ⟨[.int a t, .str (Str.ofString ">12") u], []⟩) (.str (intSpecText f12 a)) := by
  intro prog w A R s hq
  obtain ⟨hlen, hq⟩ := hq
  have hne : ((Str.ofString ">12").length == 0) = false := by decide
  have hasc : (((Str.ofString ">12").cps.toList.drop 1).any (· ≥ 128) || ((Str.ofString ">12").cps.getD 0 0 ≥ 128 && !([60, 62, 61, 94] : List Nat).contains ((Str.ofString ">12").cps.getD 1 0))) = false := by decide
  have hp := parse12
  have hty : f12.type.getD (if (Str.ofString ">12").cps.back? == some 0 then 0 else 100) = 100 := by decide
  generalize Str.ofString ">12" = spec at hne hasc hp hty ⊢
  unfold Builtin.«int.__format__»
  simp only [selfAndOne, noKeywords, Int.intOfSelf, asInt?, asStr?, List.isEmpty_nil, if_true, pure_bind, bind_pure, bind_assoc, hne, hasc, Bool.false_eq_true, if_false,
    show (Value.str spec u == Value.none) = false from rfl]
  refine wpAny_bind (wpAny_typeNameOf (T := "str") (typeIs_str _ _ _) (by decide) fun _ => ?_)
  refine wpAny_bind (wpAny_typeNameOfCut_int ?_)
  simp only [hp, hty]
  rw [if_pos (by decide)]
  show wpAny _ _ (do let r ← Builtin.overDigitLimit? a; _) _ _ _
  rw [PySem.overDigitLimit_small hd]
  refine wpAny_bind (wpAny_pure ?_)
  show wpAny _ _ (retStr _) _ _ _
  unfold retStr
  have e : ∀ (y : Str), intSpecText f12 a = y → y.length ≤ sizeLine ∧ R (.ok (.ret (.str y s.toks))) { s with toks := s.toks + 1 } := fun y hy => by
    subst hy
    exact ⟨hlen, hq⟩
  refine wpAny_bind (wpAny_mkStr (wpAny_pure (e _ ?_).2) (e _ ?_).1)
  · unfold intSpecText
    generalize Nat.toDigits 10 a.natAbs = ds
    generalize decide (a < 0) = ng
    rfl
  · unfold intSpecText
    generalize Nat.toDigits 10 a.natAbs = ds
    generalize decide (a < 0) = ng
    rfl
def spaces (k : Nat) : Str := ⟨(List.replicate k 32).toArray⟩
theorem spaces_len (k : Nat) : (spaces k).length = k := by
  show (List.replicate k 32).toArray.size = k
  simp
theorem fold_spaces : ∀ (k : Nat) (acc : Array Nat), (List.replicate k #[32]).foldl (· ++ ·) acc = acc ++ (List.replicate k 32).toArray
  | 0, acc => by simp
  | k + 1, acc => by
    rw [List.replicate_succ, List.foldl_cons, fold_spaces k, List.replicate_succ]
    apply Array.ext'
    simp
/-- the text of a number, at least twelve signs -/
def pad12 (i : Int) : Str := spaces (12 - (toString i : Str).length) ++ (toString i : Str)
theorem pad_eq {i : Int} (h : 0 ≤ i) : intSpecText f12 i = pad12 i := by
  obtain ⟨m, rfl⟩ : ∃ m : Nat, i = (m : Int) := ⟨i.toNat, by omega⟩
  have e : (toString (m : Int) : Str) = ⟨((Nat.toDigits 10 m).map Char.toNat).toArray⟩ := text_ofNat m
  unfold pad12
  rw [e]
  have hd : (Nat.toDigits 10 m) ≠ [] := by
    intro h
    have := Nat.length_repr_pos (n := m)
    unfold Nat.repr at this
    rw [h] at this
    simp at this
  unfold intSpecText
  have en : decide ((m : Int) < 0) = false := decide_eq_false (by omega)
  rw [en]
  have ea : (m : Int).natAbs = m := rfl
  rw [ea]
  have em : ((Nat.toDigits 10 m).map fun c => (if ((100 : Nat) == 88) = true then c.toUpper else c).toNat) = (Nat.toDigits 10 m).map Char.toNat := rfl
  rw [em]
  generalize hds : (Nat.toDigits 10 m).map Char.toNat = ds
  have hne : ds.isEmpty = false := by
    rw [← hds]
    cases h : Nat.toDigits 10 m with
    | nil => exact absurd h hd
    | cons _ _ => rfl
  have el : (Str.mk ds.toArray).length = ds.length := rfl
  unfold intField' spaces
  simp only [f12, hne, el]
  show Str.mk _ = Str.mk _ ++ Str.mk _
  rw [show ∀ a b : Array Nat, Str.mk a ++ Str.mk b = Str.mk (a ++ b) from fun _ _ => rfl]
  congr 1
  apply Array.ext'
  simp
section
variable {X : Cx}
def tFmt12 (te ts : TE) : TE := fun σ H Q => te σ H fun x H1 => ts σ H1 fun y H2 => ∃ i : Int, x = .int i ∧ y = .str (Str.ofString ">12") ∧ 0 ≤ i ∧ i.natAbs.log2 < 1920 ∧ (pad12 i).length ≤ sizeLine ∧ Q (.str (pad12 i)) H2
theorem pe_fmt12 {e spec : Expr} {te ts : TE} {pos : Pos} (he : PE X e te) (hs : PE X spec ts) : PE X (.FormattedValue e (-1) (some spec) pos) (tFmt12 te ts) := by
  refine ⟨fun pins s σ H Q I h => ?_⟩
  refine wpAny_FormattedValue_spec (thn (he.run pins s σ H _ I h) fun v s1 hv => ?_)
  obtain ⟨x, H1, I1, r1, q⟩ := hv
  refine thn (hs.run pins s1 σ H1 _ I1 q) fun u s2 hu => ?_
  obtain ⟨y, H2, I2, r2, i, rfl, rfl, i0, hd, hl, q⟩ := hu
  obtain ⟨t, rfl⟩ := r1
  obtain ⟨t2, rfl⟩ := r2
  refine ⟨_, t2, rfl, ?_⟩
  refine wpAny_formatField_spec (T := "int") (idf := "int.__format__") (x := pad12 i) (by decide) (fun s' => typeIs_int s' i t) PySem.F.slot_int_format PySem.F.entry_int_format (fun a b => PySem.F.args_int_format_2 a b) (fun u => ?_) ⟨.str (pad12 i), H2, (I2.tok _), ⟨_, rfl⟩, q⟩ (by decide) hl
  rw [← pad_eq i0]
  exact gives12 i t u hd
/-- f'..' of two parts or more, within a comprehension -/
def tJn (ts : List TE) : TE := fun σ H Q => tJs ts Str.empty σ H fun out H1 => Q (.str out) H1
theorem pe_joinedN {v1 v2 : Expr} {rest : List Expr} {ts : List TE} {pos : Pos} (h : PJ X (v1 :: v2 :: rest) ts) : PE X (.JoinedStr (v1 :: v2 :: rest) pos) (tJn ts) := pe_joined h
/-- " " * n -/
theorem op_mulS : OpR X (binaryOp .Mult) (fun x y H Q => ∃ n : Int, x = .str " " ∧ y = .int n ∧ -1000 ≤ n ∧ n ≤ 1000 ∧ Q (.str (spaces n.toNat)) H) := by
  intro pins s σ H x y v u Q I rx ry h
  obtain ⟨n, rfl, rfl, n0, n1, q⟩ := h
  obtain ⟨t, rfl⟩ := rx
  obtain ⟨t2, rfl⟩ := ry
  refine PySem.P.mul_str ?_ (fun h1 h2 => ?_) (fun h1 h2 => ?_) ?_
  · have h1 : ¬ n < -(2 ^ 63 : Int) := by omega
    have h2 : ¬ n ≥ 2 ^ 63 := by omega
    rw [decide_eq_false h1, decide_eq_false h2]
    rfl
  · have e : ((" " : Str).length : Int) = 1 := by decide
    rw [e]
    have : n * 1 ≤ 2 ^ 63 - 1 := by omega
    have := Int.le_ediv_of_mul_le (show 0 < n by omega) (a := 1) (b := 2 ^ 63 - 1) (by omega)
    omega
  · have e : (" " : Str).length = 1 := by decide
    rw [e]
    unfold PySem.Builtin.Str.tooLong
    exact decide_eq_false (by rw [sizeLine_eq]; omega)
  · by_cases c : n < 1
    · rw [if_pos c]
      have e : n.toNat = 0 := by omega
      rw [e] at q
      exact ⟨by decide, .str _, H, I.tok _, ⟨_, rfl⟩, q⟩
    · rw [if_neg c]
      by_cases d : n = 1
      · subst d
        rw [if_pos (by decide)]
        exact ⟨.str _, H, I, ⟨_, rfl⟩, q⟩
      · rw [if_neg (by simp [d]; decide)]
        have e : (⟨(List.replicate n.toNat (" " : Str).cps).foldl (· ++ ·) #[]⟩ : Str) = spaces n.toNat := by
          show Str.mk ((List.replicate n.toNat #[32]).foldl (· ++ ·) #[]) = _
          rw [fold_spaces]
          simp [spaces]
        rw [e]
        exact ⟨by rw [spaces_len, sizeLine_eq]; omega, .str _, H, I.tok _, ⟨_, rfl⟩, q⟩
end
end Sz
namespace Sz
open PySem PySem.Spec PyProof.Rows L2
/-! ### defs that show containers: nothing is being shown around their call -/
structure FnG (P : Program) (w : World) (K : PySem.W.Frag) (mg : Str → Option Value) (base : Heap) (k : Nat) (f : Addr) (fd : FuncData) (ps : List Str) (sp : Sp) : Prop where
  len : ∀ vs H Q E, sp vs H Q E → vs.length = ps.length
  run : ∀ (A : Around) (outer : List Env) (s : Shared) (H : Hp) (args : Args) (us : List Value) (vs : List V) (Q : VK) (E : XK), Room k A → A.guards = some [] → Env0 P w K mg base A outer s H →
    BindsTo s fd args (ps.zip us) → Vals vs us → sp vs H Q E → codeAny (model P w) A (.call (.ref f) args) (CR CX0 outer P w H s Q E) s
theorem FnG.of {P : Program} {w : World} {K : PySem.W.Frag} {mg : Str → Option Value} {base : Heap} {k : Nat} {f : Addr} {fd : FuncData} {ps : List Str} {sp : Sp} (F : FnOk P w K mg base CX0 k f fd ps sp) : FnG P w K mg base k f fd ps sp :=
  ⟨F.len, fun A outer s H args us vs Q E hr _ e0 hb r h => F.run A outer s H args us vs Q E hr e0 hb r h⟩
/-- from the body -/
theorem fnG_of {P : Program} {w : World} {K : PySem.W.Frag} {mg : Str → Option Value} {base : Heap} {k : Nat} {f : Addr} {x q : Str} {pr : Arguments} {bd : List Stmt} {sc : Scope} {dvs : List V} {kws : List (Str × V)} {fd : FuncData} {N ps : List Str} {sp : Sp}
    (F : FunD K x q pr bd sc dvs kws f fd) (S : FnScope N ps sc) (len : ∀ vs H Q E, sp vs H Q E → vs.length = ps.length)
    (hbody : ∀ (cdv : Value) (A : Around) (outer : List Env) (s : Shared) (H : Hp) (vs : List V) (Q : VK) (E : XK), Room k (A.deeper (envOfC q sc s.heap.objs.size f cdv)) → (A.deeper (envOfC q sc s.heap.objs.size f cdv)).guards = some [] → sp vs H Q E →
      ∃ t, PSs (cxOf CX0 P w K mg base N q sc f cdv A outer s H E).nox bd t ∧ t { nx := fun _ H' => Q .non H', rt := Q } (start N vs) H) : FnG P w K mg base (k + 1) f fd ps sp := by
  obtain ⟨c1, c2, c3, c4, c5, c6, c7, cdv, c9, c10, rfl, look, code, _, _⟩ := F.ex
  refine ⟨len, fun A outer s H args us vs Q E room gd e0 hbind rel want => ?_⟩
  have old : ∀ b o, base.get? b = some o → s.heap.get? b = some o := fun b o e => (e0.bs b o e).1
  have inK : K.In s.heap := e0.mod.kin.keeps old
  have kinds : ∀ y ∈ ps.zip us, sc.names.lookup y.1 = some .local ∨ (sc.names.lookup y.1 = some .cell ∧ ((cellsFrom (s.heap.objs.size + 1) sc.names []).lookup y.1).isSome = true) := by
    rintro ⟨n, v⟩ hy
    have hm : n ∈ ps := (List.of_mem_zip hy).1
    cases S.par n hm with
    | inl z => exact Or.inl z
    | inr z => exact Or.inr ⟨z, PySem.W.cellsFrom_some _ _ _ (.inl z)⟩
  obtain ⟨t, dt, rt⟩ := hbody cdv A outer s H vs Q E (room.deeper _) gd want
  have dt := dt.nox
  refine codeAny_call_function room.depth (inK _ _ look) rfl S.co S.gen rfl (PySem.W.codeRec_of inK code) ?_
  refine hbind _ _ _ _ (wpAny_newFunctionEnv_cells S.kind kinds ?_)
  rintro _ rfl s1 ic
  refine ⟨(e0.mod.nolimit.keeps old).keeps ic.toInCall.keep, codeAny_func ?_⟩
  refine wpAny_mono (dt.run [] s1 (start N vs) H _ (inv_start S room.hd e0 (len _ _ _ _ want) rel ic) rt) ?_ (fun _ _ z => z)
  intro fl s' hs
  cases fl with
  | ret u => exact let ⟨v, _, H', J, rv, qv⟩ := hs; ⟨v, H', J.os, J.bare, J.base, J.hok, rv, qv⟩
  | next => exact let ⟨_, H', J, qv⟩ := hs; ⟨.non, H', J.os, J.bare, J.base, J.hok, rfl, qv⟩
  | brk => exact let ⟨_, _, _, qv⟩ := hs; False.elim qv
  | cont => exact let ⟨_, _, _, qv⟩ := hs; False.elim qv
/-- the def named x keeps the promise sp where nothing is being shown -/
structure PromG (P : Program) (w : World) (K : PySem.W.Frag) (mg : Str → Option Value) (base : Heap) (k : Nat) (x : Str) (st : Stmt) (ps : List Str) (sp : Sp) : Prop where
  ex : ∃ f fd, FnG P w K mg base k f fd ps sp ∧ mg x = some (.ref f) ∧ FunD K x x (defArgs st) (defBody st) (defScope st) [] [] f fd ∧ Binds K fd ps []
section
variable {P : Program} {w : World} {K : PySem.W.Frag} {mg : Str → Option Value} {base : Heap}
theorem PromG.of {x : Str} {st : Stmt} {ps N : List Str} {sp : Sp} {k : Nat} (D : DefAt K mg x st) (S : FnScope N ps (defScope st)) (len : ∀ vs H Q E, sp vs H Q E → vs.length = ps.length)
    (hb : ∀ (kV doc pm : Value) (an : Option Addr) (cdv ct : Value) (us : List Value), us.length = ps.length → bindArgs (PySem.W.fnOf x x (defArgs st) (defBody st) (defScope st) .none kV doc pm an cdv ct) ⟨us, []⟩ = pure (ps.zip us))
    (hbody : ∀ (f : Addr) (cdv : Value) (A : Around) (outer : List Env) (s : Shared) (H : Hp) (vs : List V) (Q : VK) (E : XK), Room k (A.deeper (envOfC x (defScope st) s.heap.objs.size f cdv)) → (A.deeper (envOfC x (defScope st) s.heap.objs.size f cdv)).guards = some [] → sp vs H Q E →
      ∃ t, PSs (cxOf CX0 P w K mg base N x (defScope st) f cdv A outer s H E).nox (defBody st) t ∧ t { nx := fun _ H' => Q .non H', rt := Q } (start N vs) H) :
    PromG P w K mg base (k + 1) x st ps sp := by
  obtain ⟨f, fd, F, hm⟩ := D
  exact ⟨f, fd, fnG_of F S len (fun cdv A outer s H vs Q E hr hg hs => hbody f cdv A outer s H vs Q E hr hg hs), hm, F, F.bindsN hb⟩
theorem Prom.g {x : Str} {st : Stmt} {ps : List Str} {sp : Sp} {k : Nat} (G : Prom P w K mg base CX0 k x st ps sp) : PromG P w K mg base k x st ps sp := by
  obtain ⟨f, fd, F, r⟩ := G.ex
  exact ⟨f, fd, FnG.of F, r⟩
end
section
variable {X : Cx} {k : Nat} {x : Str} {st : Stmt} {ps : List Str} {sp : Sp} {e : Expr} {es : List Expr} {t : TA} {p pos : Pos}
/-- f(..) of such a def -/
theorem pe_callG (G : PromG X.prog X.w X.K X.mg X.base k x st ps sp) (gd : X.A.guards = some []) (hr : Room k X.A) (hg : Gl X x) (ha : PA X (e :: es) t)
    (hdb : (x == ("__debug__" : Str)) = false := by decide) (he : starEach (e :: es) X.env = (false, eval e X.env) :: starEach es X.env := by rfl) (hpl : (backTo pos (starEach es X.env)).any (·.1) = false := by rfl) :
    PE X (.Call (.Name x p) (e :: es) [] pos) (tCall sp [] E0 t) := by
  obtain ⟨f, fd, F, hm, D, hb⟩ := G.ex
  constructor
  intro pins s σ H Q I h
  refine wpAny_Call_Name_kw (ld_glob I hg hm (PySem.W.callWith_K (h₀ := X.base) I.ok.mod.kin D.kp (thn (ha.run pos pins s σ H _ I h) ?_) he hpl) hdb)
  rintro us s1 ⟨vs, H1, I1, rel, want⟩
  refine ⟨I1.kIn, wpAny_call (codeAny_mono (F.run X.A X.stack s1 H1 ⟨us, []⟩ (us ++ []) (vs ++ []) Q E0 hr gd I1.env0 (hb s1 us I1.kIn ?_) (rel.append .nil) want) ?_)⟩
  · rw [← (rel.append Paired.nil).length]
    exact F.len _ _ _ _ want
  · intro r s' hq
    cases r with
    | error z => exact False.elim hq
    | ok fl =>
      cases fl with
      | ret u => exact I1.after hq
      | next => exact False.elim hq
      | brk => exact False.elim hq
      | cont => exact False.elim hq
/-- repr of data at any depth -/
theorem cr_reprD (gd : X.A.guards = some []) (hu : X.A.units + 64 < cLine) : CallR X (.builtin "repr") (fun xs H Q => ∃ (a : Addr) (d : PyData), xs = [.ref a] ∧ Dp X.K H (.ref a) d ∧ d.showable = true ∧ d.hasDict = false ∧ d.depth ≤ 40 ∧ d.shown.length ≤ sizeLine ∧ Q (.str d.shown) H) := by
  intro pins s σ H xs us Q I r h
  obtain ⟨a, d, rfl, hd, h1, h2, h3, h4, q⟩ := h
  obtain ⟨u, rfl, ru⟩ := vals1 r
  obtain ⟨as, rd⟩ := Dp.reads I d _ u hd ru
  cases (show u = Value.ref a from ru)
  refine repr_of_reads' rd h1 (PyData.noDict_hsm h2) gd (by omega) (fun _ _ z => z) (fun h' tok tk kept => ?_) h4
  exact ⟨.str d.shown, H, I.kept (t' := tk) kept, ⟨_, rfl⟩, q⟩
end
/-! ### the law's call -/
section
variable {P : Program} {w : World} {K : PySem.W.Frag} {mg mb : Str → Option Value} {k : Nat} {fa a : Addr} {fd : FuncData} {x : Str} {sp : Sp} {st : Shared} {vs : List Value} {ns : List Int}
/-- the script as the law finds it -/
def scriptHp (K : PySem.W.Frag) (a : Addr) (vs : List Value) (ns : List Int) : Hp := fun b => if b = a ∧ K.lookup a = none then some (.frz { cls := .type "list", data := .seq vs.toArray } (.lst (ns.map V.int))) else none
theorem scriptHp_some {b : Addr} {u : HO} (h : scriptHp K a vs ns b = some u) : b = a ∧ K.lookup a = none ∧ u = .frz { cls := .type "list", data := .seq vs.toArray } (.lst (ns.map V.int)) := by
  unfold scriptHp at h
  by_cases c : b = a ∧ K.lookup a = none
  · rw [if_pos c] at h
    exact ⟨c.1, c.2, (Option.some.inj h).symm⟩
  · rw [if_neg c] at h
    cases h
theorem scriptHp_none {b : Addr} (h : b ≠ a) : scriptHp K a vs ns b = none := if_neg fun z => h z.1
theorem law_callG (KX : K.In st.heap) (gl : st.heap.Ns mainGlobals mg) (bl : st.heap.Ns builtinsNs mb) (bb : ∀ y : Str, y ≠ "__name__" → mb y = bootBuiltins y) (nl : st.heap.NoLimit) (gn : st.gens = #[])
    (ha : st.heap.get? a = some { cls := .type "list", data := .seq vs.toArray }) (hi : IntsAre vs ns) (hl : ns.length ≤ sizeLine) (room : Room k callerA)
    (F : ∀ base : Heap, K.In base → base.Ns mainGlobals mg → FnG P w K mg base k fa fd [x] sp) (bind1 : ∀ (s : Shared) (u : Value), BindsTo s fd ⟨[u], []⟩ [(x, u)])
    (want : ∀ H : Hp, SqL K H a (ns.map V.int) → sp [.ref a] H (fun v _ => v = .bl true) fun _ _ _ => False) :
    codeAny (model P w) callerA (.call (.ref fa) ⟨[.ref a], []⟩) (fun r s' => r = .ok (.ret (.bool true)) ∧ OldK st.heap s'.heap ∧ s'.os = st.os ∧ AllBare s'.gens) st := by
  have rel : Vals (ns.map V.int) vs := vals_ints hi
  have len : (ns.map V.int).length ≤ sizeLine := by rw [List.length_map]; exact hl
  generalize hH : scriptHp K a vs ns = H
  have sm : ∀ {b u}, H b = some u → b = a ∧ K.lookup a = none ∧ u = .frz { cls := .type "list", data := .seq vs.toArray } (.lst (ns.map V.int)) := fun {b u} e => by
    rw [← hH] at e
    exact scriptHp_some e
  have ok : HOk P w H st.heap := fun b u e => by
    obtain ⟨rfl, _, rfl⟩ := sm e
    exact ⟨ha, len, vs, _, rel, ha⟩
  have sq : SqL K H a (ns.map V.int) := by
    cases lk : K.lookup a with
    | none => exact Or.inl (Or.inr ⟨_, by rw [← hH]; exact if_pos ⟨rfl, lk⟩⟩)
    | some o =>
      have e := (KX a o lk).symm.trans ha
      cases e
      exact Or.inr ⟨_, vs.toArray, _, lk, rfl, rfl, rfl, by rw [List.size_toArray, ← rel.length]; exact len, by simpa using rel⟩
  have hid : ∀ {b o}, st.heap.get? b = some o → H b = none → (hidT st.heap H).get? b = some o := fun e n => hidT_get e n
  have free : ∀ {b : Addr} {m}, st.heap.Ns b m → H b = none := fun {b m} hn => by
    cases e : H b with
    | none => rfl
    | some u =>
      obtain ⟨rfl, _, _⟩ := sm e
      obtain ⟨o, es, ep, e1, e2, _⟩ := hn
      have z := ha.symm.trans e1
      cases z
      cases e2
  have ns1 : ∀ {b : Addr} {m}, st.heap.Ns b m → (hidT st.heap H).Ns b m := fun {b m} hn => by
    have fr := free hn
    obtain ⟨o, es, ep, e1, e2⟩ := hn
    exact ⟨o, es, ep, hid e1 fr, e2⟩
  have inB : K.In (hidT st.heap H) := fun b o e => hid (KX b o e) (by
    cases z : H b with
    | none => rfl
    | some u =>
      obtain ⟨rfl, z2, _⟩ := sm z
      rw [z2] at e
      cases e)
  have md : Mod K mg (hidT st.heap H) := ⟨inB, ns1 gl, ⟨mb, ns1 bl, bb⟩, let ⟨mc, c1, c2⟩ := nl; ⟨mc, ns1 c1, c2⟩⟩
  have env : Env0 P w K mg (hidT st.heap H) callerA [] st H := ⟨rfl, md, fun _ _ e => of_hidT e, Nat.le_of_eq (hidT_size _ _), trivial, fun b z => absurd (show b ∈ ([] : List Addr) from z) (by simp), ok, .of_eq gn⟩
  refine codeAny_mono ((F _ inB (ns1 gl)).run callerA [] st H ⟨[.ref a], []⟩ [.ref a] [.ref a] _ _ room rfl env (bind1 st (.ref a)) (.cons rfl .nil) (want H sq)) fun r s' h => ?_
  cases r with
  | error z => exact False.elim h
  | ok fl =>
    cases fl with
    | next => exact False.elim h
    | brk => exact False.elim h
    | cont => exact False.elim h
    | ret u =>
      obtain ⟨v, H', os, bare, un, ok', ru, qv⟩ := h
      cases (show v = .bl true from qv)
      cases (show u = Value.bool true from ru)
      refine ⟨rfl, OldK.of_keep ?_, os, bare⟩
      intro b o e
      cases z : H b with
      | none => exact un.keep b o e z (by intro y; exact absurd (show b ∈ ([] : List Addr) from y) (by simp)) (by simp)
      | some t =>
        obtain ⟨rfl, _, rfl⟩ := sm z
        have e2 := (ok' _ _ (un.frzs _ _ _ z)).1
        have e3 := ha.symm.trans e
        cases e3
        exact e2
end
/-- a law whose def is a PromG -/
theorem walk_ofG {l : PySem.W.OpenLaw} {n k : Nat} {q : Program} {loose : List Str} {XP : (Str → Option Value) → Heap → Prop} {YP : World → Heap → Prop} {d : DefRec} {x : Str}
    (hn : l.most = some n) (hn2 : n ≤ sizeLine) (hdf : d.params.defaults = []) (room : Room k callerA)
    (F : ∀ (w : World) (mg : Str → Option Value) (fa : Addr) (h : Heap), YP w h → h.Ns mainGlobals mg → mg d.name = some (.ref fa) →
      ∃ (K : PySem.W.Frag) (fd : FuncData) (sp : Sp), K.In h ∧ (∀ (s : Shared) (u : Value), BindsTo s fd ⟨[u], []⟩ [(x, u)]) ∧
        (∀ (H : Hp) (a : Addr) (ns : List Int), ns.length ≤ n → (∀ z ∈ ns, Builtin.Int.intBits z ≤ 1048576) → SqL K H a (ns.map V.int) → sp [.ref a] H (fun v _ => v = .bl true) fun _ _ _ => False) ∧
        ∀ base : Heap, K.In base → base.Ns mainGlobals mg → FnG l.prog w K mg base k fa fd [x] sp) :
    PySem.W.WalkO q loose XP YP l.row.toRowW d [] (fun f vs => PySem.call f vs) := by
  refine Att.attach_callB hn hdf fun w sA sB mg mb fa o pm cd doc a vs ns G Y ho hd hcd hmg hobj hints hlen hbits hg => ?_
  obtain ⟨K, fd, sp, KX, b1, want, hF⟩ := F w mg fa _ Y G.T.g hmg
  exact law_callG KX G.T.g G.T.b G.T.builtins G.T.nolimit hg hobj hints (Nat.le_trans hlen hn2) room hF b1 (fun H hS => want H a ns hlen hbits hS)
end Sz
namespace Sz
/-! ### powers -/
theorem pow_pos {b : Int} (hb : 1 ≤ b) : ∀ j : Nat, 1 ≤ b ^ j
  | 0 => by rw [Int.pow_zero]; exact Int.le_refl 1
  | j + 1 => by
    rw [Int.pow_succ]
    have ih := pow_pos hb j
    have h := Int.mul_le_mul ih hb (by omega) (by omega)
    omega
theorem pow_one (b : Int) : b ^ (0 + 1) = b := by rw [Int.pow_succ, Int.pow_zero, Int.one_mul]
theorem pow_step {b : Int} (hb : 1 ≤ b) (j : Nat) : b ^ j ≤ b ^ (j + 1) := by
  rw [Int.pow_succ]
  have h := Int.mul_le_mul_of_nonneg_left hb (show 0 ≤ b ^ j by have := pow_pos hb j; omega)
  omega
theorem pow_mono {b : Int} (hb : 1 ≤ b) {i : Nat} : ∀ {j : Nat}, i ≤ j → b ^ i ≤ b ^ j
  | 0, h => by
    have e : i = 0 := by omega
    rw [e]
    exact Int.le_refl _
  | j + 1, h => by
    by_cases e : i = j + 1
    · rw [e]
      exact Int.le_refl _
    · exact Int.le_trans (pow_mono hb (j := j) (by omega)) (pow_step hb j)
theorem pow_lt {b : Int} (hb : 2 ≤ b) (j : Nat) : b ^ j < b ^ (j + 1) := by
  rw [Int.pow_succ]
  have h1 := pow_pos (show 1 ≤ b by omega) j
  have h := Int.mul_le_mul_of_nonneg_left hb (show 0 ≤ b ^ j by omega)
  omega
/-- an integer is below the power with its own number -/
theorem lt_pow {b : Int} (hb : 2 ≤ b) : ∀ j : Nat, (j : Int) < b ^ j
  | 0 => by rw [Int.pow_zero]; decide
  | j + 1 => by
    have h1 := lt_pow hb j
    have h2 := pow_lt hb j
    omega
/-! ### figures -/
/-- k is the number of figures of n in the base b -/
def IsF (b n k : Int) : Prop := ∃ j : Nat, k = (j : Int) + 1 ∧ n < b ^ (j + 1) ∧ (j = 0 ∨ b ^ j ≤ n)
theorem isF_le {b n m k l : Int} (hb : 2 ≤ b) (h : n ≤ m) (hk : IsF b n k) (hl : IsF b m l) : k ≤ l := by
  obtain ⟨i, rfl, h1, h2⟩ := hk
  obtain ⟨j, rfl, h3, h4⟩ := hl
  by_cases c : i ≤ j
  · omega
  · rcases h2 with h2 | h2
    · omega
    · have h5 := pow_mono (show 1 ≤ b by omega) (show j + 1 ≤ i by omega)
      omega
theorem isF_eq {b n k l : Int} (hb : 2 ≤ b) (hk : IsF b n k) (hl : IsF b n l) : k = l :=
  Int.le_antisymm (isF_le hb (Int.le_refl n) hk hl) (isF_le hb (Int.le_refl n) hl hk)
theorem isF_pos {b n k : Int} (h : IsF b n k) : 1 ≤ k := by
  obtain ⟨j, rfl, _⟩ := h
  omega
/-- there is such a number -/
theorem isF_ex {b : Int} (hb : 2 ≤ b) (n : Int) : ∃ k, IsF b n k := by
  have key : ∀ m : Nat, ∀ n : Int, n < b ^ (m + 1) → ∃ k, IsF b n k := by
    intro m
    induction m with
    | zero => exact fun n h => ⟨1, 0, rfl, h, .inl rfl⟩
    | succ m ih =>
      intro n h
      by_cases c : n < b ^ (m + 1)
      · exact ih n c
      · exact ⟨(m + 1 : Nat) + 1, m + 1, rfl, h, .inr (by omega)⟩
  refine key n.toNat n ?_
  have h1 := lt_pow hb (n.toNat + 1)
  omega
/-- a bound for the figures -/
theorem isF_bound {b n k : Int} (hb : 2 ≤ b) (m : Nat) (hn : n < 2 ^ m) (h : IsF b n k) : k ≤ (m : Int) + 1 := by
  obtain ⟨j, rfl, h1, h2⟩ := h
  rcases h2 with h2 | h2
  · omega
  · by_cases c : j ≤ m
    · omega
    · exfalso
      have h3 : (2 : Int) ^ j ≤ b ^ j := by
        clear h1 h2 c
        induction j with
        | zero => rw [Int.pow_zero, Int.pow_zero]; exact Int.le_refl 1
        | succ j ih =>
          rw [Int.pow_succ, Int.pow_succ]
          exact Int.mul_le_mul ih hb (by decide) (by have := pow_pos (show 1 ≤ b by omega) j; omega)
      have h4 := pow_mono (show (1 : Int) ≤ 2 by decide) (show m ≤ j by omega)
      omega
end Sz
namespace Sz
/-! ### totals that count their own figures -/
theorem isF_upper {b x g : Int} (hb : 2 ≤ b) {m : Nat} (h : x < b ^ (m + 1)) (hg : IsF b x g) : g ≤ (m : Int) + 1 := by
  obtain ⟨i, rfl, h1, h2⟩ := hg
  by_cases c : i ≤ m
  · omega
  · rcases h2 with h2 | h2
    · omega
    · have := pow_mono (show 1 ≤ b by omega) (show m + 1 ≤ i by omega)
      omega
/-- adding its figures to a number makes one figure more at most -/
theorem fig_grow {b n f g : Int} (hb : 2 ≤ b) (hn : 0 ≤ n) (hf : IsF b n f) (hg : IsF b (n + f) g) : g = f ∨ g = f + 1 := by
  have h1 := isF_le hb (show n ≤ n + f by have := isF_pos hf; omega) hf hg
  obtain ⟨j, rfl, h2, h3⟩ := hf
  have h4 := lt_pow hb (j + 1)
  have h5 : b ^ (j + 1 + 1) = b ^ (j + 1) * b := Int.pow_succ b (j + 1)
  have h6 := Int.mul_le_mul_of_nonneg_left hb (show 0 ≤ b ^ (j + 1) by omega)
  have h7 := isF_upper (m := j + 1) hb (show n + ((j : Int) + 1) < b ^ (j + 1 + 1) by omega) hg
  omega
/-- and then this is the number of figures -/
theorem fig_next {b n f : Int} (hb : 2 ≤ b) (hn : 0 ≤ n) (hf : IsF b n f) (hg : IsF b (n + f) (f + 1)) : IsF b (n + f + 1) (f + 1) := by
  obtain ⟨j, rfl, h2, h3⟩ := hf
  obtain ⟨i, e, h4, h5⟩ := hg
  have e2 : i = j + 1 := by omega
  subst e2
  have h6 := lt_pow hb (j + 1)
  have h7 : b ^ (j + 1 + 1) = b ^ (j + 1) * b := Int.pow_succ b (j + 1)
  have h8 := Int.mul_le_mul_of_nonneg_left hb (show 0 ≤ b ^ (j + 1) by omega)
  refine ⟨j + 1, by omega, by omega, Or.inr ?_⟩
  rcases h5 with h5 | h5
  · omega
  · omega
/-- s is a total of N -/
def Tot (b N s : Int) : Prop := IsF b s (s - N)
structure IsTot (b N s : Int) : Prop where
  tot : Tot b N s
  least : ∀ t, Tot b N t → s ≤ t
theorem isTot_pos {b N s : Int} (h : Tot b N s) : N + 1 ≤ s := by
  have := isF_pos h
  omega
theorem isTot_first {b n f : Int} (hb : 2 ≤ b) (hf : IsF b n f) (hg : IsF b (n + f) f) : IsTot b n (n + f) := by
  refine ⟨?_, fun t ht => ?_⟩
  · have e : n + f - n = f := by omega
    show IsF b (n + f) (n + f - n)
    rw [e]
    exact hg
  · have h1 := isTot_pos ht
    have h2 := isF_le hb (show n ≤ t by omega) hf ht
    omega
theorem isTot_second {b n f : Int} (hb : 2 ≤ b) (hn : 0 ≤ n) (hf : IsF b n f) (hg : IsF b (n + f) (f + 1)) : IsTot b n (n + f + 1) := by
  refine ⟨?_, fun t ht => ?_⟩
  · have e : n + f + 1 - n = f + 1 := by omega
    show IsF b (n + f + 1) (n + f + 1 - n)
    rw [e]
    exact fig_next hb hn hf hg
  · have h1 := isTot_pos ht
    have h2 := isF_le hb (show n ≤ t by omega) hf ht
    by_cases c : t = n + f
    · subst c
      have ht2 : IsF b (n + f) (n + f - n) := ht
      have e : n + f - n = f := by omega
      rw [e] at ht2
      have := isF_eq hb ht2 hg
      omega
    · omega
theorem isTot_eq {b N s t : Int} (h : IsTot b N s) (h2 : IsTot b N t) : s = t := Int.le_antisymm (h.least t h2.tot) (h2.least s h.tot)
/-- two totals lie beside one another -/
theorem tot_near {b N s t : Int} (hb : 2 ≤ b) (hN : 0 ≤ N) (h : Tot b N s) (h2 : Tot b N t) (hst : s ≤ t) : t ≤ s + 1 := by
  obtain ⟨i, e1, h3, h4⟩ := h
  obtain ⟨j, e2, h5, h6⟩ := h2
  by_cases c : t ≤ s + 1
  · exact c
  · exfalso
    have hj : b ^ j ≤ t := by
      rcases h6 with h6 | h6
      · omega
      · exact h6
    obtain ⟨m, hm⟩ : ∃ m : Nat, j = i + 1 + (m + 1) := ⟨j - i - 2, by omega⟩
    have e3 : b ^ j = b ^ (i + 1) * b ^ (m + 1) := by rw [hm, Int.pow_add]
    have p1 := pow_pos (show 1 ≤ b by omega) (i + 1)
    have p0 : 2 ≤ b ^ (i + 1) := by
      have := pow_mono (show 1 ≤ b by omega) (show 0 + 1 ≤ i + 1 by omega)
      rw [pow_one] at this
      omega
    have l1 := lt_pow hb (m + 1)
    have l2 := Int.mul_le_mul_of_nonneg_left (show ((m + 1 : Nat) : Int) + 1 ≤ b ^ (m + 1) by omega) (show 0 ≤ b ^ (i + 1) by omega)
    have l3 : b ^ (i + 1) * (((m + 1 : Nat) : Int) + 1) = b ^ (i + 1) * ((m + 1 : Nat) : Int) + b ^ (i + 1) := by rw [Int.mul_add, Int.mul_one]
    have l4 := Int.mul_le_mul_of_nonneg_right p0 (show 0 ≤ ((m + 1 : Nat) : Int) by omega)
    omega
/-- whether the next integer is a total, too -/
theorem tot_two {b N s g h : Int} (hb : 2 ≤ b) (ht : Tot b N s) (hg : IsF b s g) (hh : IsF b (s + 1) h) : (h > g ↔ Tot b N (s + 1)) := by
  have e1 : g = s - N := isF_eq hb hg ht
  constructor
  · intro c
    have h1 : h = g + 1 := by
      obtain ⟨j, rfl, h2, h3⟩ := hg
      have h4 := isF_upper (m := j + 1) hb (show s + 1 < b ^ (j + 1 + 1) by have := pow_lt hb (j + 1); omega) hh
      omega
    show IsF b (s + 1) (s + 1 - N)
    have e2 : s + 1 - N = h := by omega
    rw [e2]
    exact hh
  · intro c
    have e2 : h = s + 1 - N := isF_eq hb hh c
    omega
theorem isTot_ex {b n : Int} (hb : 2 ≤ b) (hn : 0 ≤ n) : ∃ s, IsTot b n s := by
  obtain ⟨f, hf⟩ := isF_ex hb n
  obtain ⟨g, hg⟩ := isF_ex hb (n + f)
  rcases fig_grow hb hn hf hg with e | e
  · exact ⟨_, isTot_first hb hf (by rw [← e]; rw [e] at hg ⊢; exact hg)⟩
  · exact ⟨_, isTot_second hb hn hf (by rw [← e]; exact hg)⟩
theorem pow_add_le {b : Int} (hb : 2 ≤ b) (j d : Nat) : b ^ j + d ≤ b ^ (j + d) := by
  induction d with
  | zero => simp
  | succ d ih =>
    have := pow_lt hb (j + d)
    have e : j + (d + 1) = j + d + 1 := by omega
    rw [e]
    omega
theorem two_mul_le {b : Int} (hb : 2 ≤ b) : ∀ j : Nat, 2 * (j : Int) ≤ b ^ j + 1
  | 0 => by simp
  | 1 => by rw [show (1 : Nat) = 0 + 1 from rfl, pow_one]; omega
  | j + 2 => by
    have h1 := two_mul_le hb (j + 1)
    have h2 : b ^ (j + 2) = b ^ (j + 1) * b := Int.pow_succ b (j + 1)
    have h3 := pow_mono (show 1 ≤ b by omega) (show 0 + 1 ≤ j + 1 by omega)
    rw [pow_one] at h3
    have h4 := Int.mul_le_mul_of_nonneg_left hb (show 0 ≤ b ^ (j + 1) by omega)
    omega
/-- the totals found ahead of the number k of figures -/
def totA (N s : Int) (two : Bool) (k : Int) : List Int := if k ≤ s - N then [] else if k = s - N + 1 ∨ two = false then [s] else [s, s + 1]
theorem totA_start {b N s : Int} {two : Bool} (h : IsTot b N s) : totA N s two 1 = [] := if_pos (by have := isTot_pos h.tot; omega)
/-- the one with k figures is a total -/
theorem totA_yes {b N s k : Int} {two : Bool} (hb : 2 ≤ b) (hN : 0 ≤ N) (h : IsTot b N s) (h2 : two = true ↔ Tot b N (s + 1)) (hk : Tot b N (N + k)) : totA N s two (k + 1) = totA N s two k ++ [N + k] := by
  have a := h.least _ hk
  have c := tot_near hb hN h.tot hk a
  by_cases e : N + k = s
  · have e1 : totA N s two k = [] := if_pos (by omega)
    have e2 : totA N s two (k + 1) = [s] := by
      unfold totA
      rw [if_neg (by omega), if_pos (Or.inl (by omega))]
    rw [e1, e2, e]
    rfl
  · have e0 : N + k = s + 1 := by omega
    have ht : two = true := h2.mpr (by rw [← e0]; exact hk)
    have e1 : totA N s two k = [s] := by
      unfold totA
      rw [if_neg (by omega), if_pos (Or.inl (by omega))]
    have e2 : totA N s two (k + 1) = [s, s + 1] := by
      unfold totA
      rw [if_neg (by omega), if_neg (by rw [ht]; simp; omega)]
    rw [e1, e2, e0]
    rfl
theorem totA_no {b N s k : Int} {two : Bool} (h : IsTot b N s) (h2 : two = true ↔ Tot b N (s + 1)) (hk : ¬ Tot b N (N + k)) : totA N s two (k + 1) = totA N s two k := by
  have e : N + k ≠ s := fun z => hk (by rw [z]; exact h.tot)
  unfold totA
  by_cases c : k ≤ s - N
  · rw [if_pos c, if_pos (by omega)]
  · rw [if_neg c, if_neg (by omega)]
    by_cases d : k = s - N + 1
    · have d0 : N + k = s + 1 := by omega
      have ht : two = false := by
        cases q : two with
        | false => rfl
        | true => exact absurd (by rw [d0]; exact h2.mp q) hk
      rw [if_pos (Or.inr ht), if_pos (Or.inr ht)]
    · by_cases ht : two = false
      · rw [if_pos (Or.inr ht), if_pos (Or.inr ht)]
      · rw [if_neg (fun z => z.elim (by omega) ht), if_neg (fun z => z.elim (by omega) ht)]
theorem totA_end {b N s : Int} {j : Nat} {two : Bool} (hb : 2 ≤ b) (hN : 0 ≤ N) (h : IsTot b N s) (h2 : two = true ↔ Tot b N (s + 1)) (hj : ¬ b ^ j ≤ N + ((j : Int) + 1)) : totA N s two ((j : Int) + 1) = if two then [s, s + 1] else [s] := by
  have far : ∀ t, Tot b N t → t - N < (j : Int) + 1 := fun t ht => by
    obtain ⟨i, e, h3, h4⟩ := ht
    by_cases c : i < j
    · omega
    · exfalso
      obtain ⟨d, hd⟩ : ∃ d, i = j + d := ⟨i - j, by omega⟩
      have h5 := pow_add_le hb j d
      rw [← hd] at h5
      rcases h4 with h4 | h4
      · have e0 : j = 0 := by omega
        rw [e0] at hj h5
        have : N + 1 ≤ t := by omega
        have e1 : d = 0 := by omega
        rw [e1] at h5
        simp at hj h5
        omega
      · omega
  have f1 := far s h.tot
  unfold totA
  rw [if_neg (by omega)]
  cases ht : two with
  | false => simp
  | true =>
    have f2 := far _ (h2.mp ht)
    rw [if_neg (by simp; omega)]
    rfl
/-- figures grow no faster than numbers -/
theorem fig_lip {b x y f g : Int} (hb : 2 ≤ b) (h : x ≤ y) (hf : IsF b x f) (hg : IsF b y g) : g ≤ f + (y - x) := by
  obtain ⟨j, rfl, h1, h2⟩ := hf
  obtain ⟨d, hd⟩ : ∃ d : Nat, y = x + d := ⟨(y - x).toNat, by omega⟩
  have h3 := pow_add_le hb (j + 1) d
  have h4 := isF_upper (m := j + d) hb (show y < b ^ (j + d + 1) by rw [show j + d + 1 = j + 1 + d by omega]; omega) hg
  omega
/-- the least total of the next one stands right behind the last total -/
theorem tot_step {b N s : Int} {two : Bool} (hb : 2 ≤ b) (hN : 0 ≤ N) (h : IsTot b N s) (h2 : two = true ↔ Tot b N (s + 1)) : IsTot b (N + 1) (s + (if two then [s, s + 1] else [s]).length) := by
  have last : ∃ e : Int, s + (if two then [s, s + 1] else [s]).length = e + 1 ∧ Tot b N e ∧ ¬ Tot b N (e + 1) := by
    cases q : two with
    | false => exact ⟨s, by simp, h.tot, fun z => by rw [q] at h2; have := h2.mpr z; cases this⟩
    | true =>
      refine ⟨s + 1, by simp; omega, h2.mp q, fun z => ?_⟩
      have := tot_near hb hN h.tot z (by omega)
      omega
  obtain ⟨e, e0, e1, e2⟩ := last
  rw [e0]
  obtain ⟨f, hf⟩ := isF_ex hb (e + 1)
  have f1 := isF_le hb (show e ≤ e + 1 by omega) e1 hf
  have f2 := fig_lip hb (show e ≤ e + 1 by omega) e1 hf
  have f3 : f ≠ e + 1 - N := fun z => e2 (by show IsF b (e + 1) (e + 1 - N); rw [← z]; exact hf)
  refine ⟨?_, fun t ht => ?_⟩
  · show IsF b (e + 1) (e + 1 - (N + 1))
    have : f = e + 1 - (N + 1) := by omega
    rw [← this]
    exact hf
  · by_cases c : e + 1 ≤ t
    · exact c
    · have := fig_lip hb (show t ≤ e by omega) ht e1
      omega
/-- the integer ahead of the least total is one of the length ahead -/
theorem tot_ahead {b N s f : Int} (hb : 2 ≤ b) (h : IsTot b N s) (hf : IsF b (s - 1) f) : s - 1 - f = N - 1 := by
  have h1 := fig_lip hb (show s - 1 ≤ s by omega) hf h.tot
  have h2 := isF_le hb (show s - 1 ≤ s by omega) hf h.tot
  have h3 : f ≠ s - 1 - N := fun z => by
    have := h.least (s - 1) (by show IsF b (s - 1) (s - 1 - N); rw [← z]; exact hf)
    omega
  omega
/-- so many integers from one on -/
def irun (s : Int) (n : Nat) : List Int := (List.range n).map fun (i : Nat) => s + (i : Int)
theorem irun_len (s : Int) (n : Nat) : (irun s n).length = n := by
  unfold irun
  simp
theorem irun_app (s : Int) (n : Nat) (two : Bool) : irun s n ++ (if two then [s + n, s + n + 1] else [s + n]) = irun s (n + (if two then [s, s + 1] else [s]).length) := by
  unfold irun
  cases two with
  | false => simp [List.range_succ]
  | true =>
    simp [List.range_succ]
    omega
/-- a total by its power -/
theorem tot_iff {b N : Int} {j : Nat} (hN : 0 ≤ N) (hj : b ^ j ≤ N + ((j : Int) + 1)) : Tot b N (N + ((j : Int) + 1)) ↔ N + ((j : Int) + 1) < b ^ (j + 1) := by
  have e : N + ((j : Int) + 1) - N = (j : Int) + 1 := by omega
  constructor
  · rintro ⟨i, e1, h1, _⟩
    have : i = j := by omega
    rw [this] at h1
    exact h1
  · intro h
    exact ⟨j, e, h, Or.inr hj⟩
end Sz
namespace Sz
/-! ### what wraps make of lengths -/
open Classical in
/-- how many figures -/
noncomputable def figF (b n : Int) : Int := if h : 2 ≤ b then choose (isF_ex h n) else 0
theorem figF_is {b n : Int} (h : 2 ≤ b) : IsF b n (figF b n) := by
  unfold figF
  rw [dif_pos h]
  exact Classical.choose_spec (isF_ex h n)
theorem figF_eq {b n k : Int} (hb : 2 ≤ b) (h : IsF b n k) : k = figF b n := isF_eq hb h (figF_is hb)
theorem figF_pos {b n : Int} (hb : 2 ≤ b) : 1 ≤ figF b n := isF_pos (figF_is hb)
theorem figF_mono {b n m : Int} (hb : 2 ≤ b) (h : n ≤ m) : figF b n ≤ figF b m := isF_le hb h (figF_is hb) (figF_is hb)
theorem figF_lip {b n m : Int} (hb : 2 ≤ b) (h : n ≤ m) : figF b m ≤ figF b n + (m - n) := fig_lip hb h (figF_is hb) (figF_is hb)
open Classical in
/-- the least total -/
noncomputable def totF (b n : Int) : Int := if h : 2 ≤ b ∧ 0 ≤ n then choose (isTot_ex h.1 h.2) else 0
theorem totF_is {b n : Int} (h : 2 ≤ b) (h2 : 0 ≤ n) : IsTot b n (totF b n) := by
  unfold totF
  rw [dif_pos ⟨h, h2⟩]
  exact Classical.choose_spec (isTot_ex h h2)
theorem totF_eq {b n k : Int} (hb : 2 ≤ b) (hn : 0 ≤ n) (h : IsTot b n k) : k = totF b n := isTot_eq h (totF_is hb hn)
/-- how many parts of a size a length begins -/
def beg (n m : Int) : Int := (n + m - 1) / m
inductive Wr where
  | plus (c : Int)
  | told (c : Int)
  | whole (c : Int)
  | pieces (m c : Int)
  | cut (m c : Int)
  | coded (m c : Int)
  | filled (m : Int)
def Wr.kind : Wr → PySem.Str
  | .plus _ => "plus"
  | .told _ => "told"
  | .whole _ => "whole"
  | .pieces _ _ => "pieces"
  | .cut _ _ => "cut"
  | .coded _ _ => "coded"
  | .filled _ => "filled"
def Wr.nums : Wr → List Int
  | .plus c => [c]
  | .told c => [c]
  | .whole c => [c]
  | .pieces m c => [m, c]
  | .cut m c => [m, c]
  | .coded m c => [m, c]
  | .filled m => [m]
def Wr.rng : Wr → List (Int × Int)
  | .plus _ => [(0, 1000)]
  | .told _ => [(0, 1000)]
  | .whole _ => [(0, 1000)]
  | .pieces _ _ => [(1, 60), (0, 60)]
  | .cut _ _ => [(1, 60), (0, 60)]
  | .coded _ _ => [(1, 60), (1, 120)]
  | .filled _ => [(1, 60)]
def Wr.ok : Wr → Prop
  | .plus c => 0 ≤ c ∧ c ≤ 1000
  | .told c => 0 ≤ c ∧ c ≤ 1000
  | .whole c => 0 ≤ c ∧ c ≤ 1000
  | .pieces m c => 1 ≤ m ∧ m ≤ 60 ∧ 0 ≤ c ∧ c ≤ 60
  | .cut m c => 1 ≤ m ∧ m ≤ 60 ∧ 0 ≤ c ∧ c ≤ 60
  | .coded m c => 1 ≤ m ∧ m ≤ 60 ∧ m ≤ c ∧ c ≤ 120
  | .filled m => 1 ≤ m ∧ m ≤ 60
/-- the size that a wrap makes of a length -/
noncomputable def Wr.gr (b : Int) : Wr → Int → Int
  | .plus c, n => n + c
  | .told c, n => n + c + figF b n
  | .whole c, n => totF b (n + c)
  | .pieces m c, n => n / m * (m + c + figF b m) + (if 0 < n % m then n % m + c + figF b (n % m) else 0) + c + 1
  | .cut m c, n => n + beg n m * c
  | .coded m c, n => beg n m * c
  | .filled m, n => beg n m * m
theorem nums_len {w : Wr} : w.nums.length = w.rng.length := by cases w <;> rfl
theorem nums_small {w : Wr} (h : w.ok) : ∀ x ∈ w.nums, 0 ≤ x ∧ x ≤ 1000 := by
  cases w <;> simp only [Wr.ok] at h <;> simp [Wr.nums] <;> omega
theorem beg_le {n m : Int} (hn : 0 ≤ n) (hm : 1 ≤ m) : beg n m ≤ n ∧ 0 ≤ beg n m := by
  unfold beg
  constructor
  · refine Int.le_of_lt_add_one (Int.ediv_lt_of_lt_mul (by omega) ?_)
    have := Int.mul_le_mul_of_nonneg_left hm (show 0 ≤ n by omega)
    have e : (n + 1) * m = n * m + m := by rw [Int.add_mul, Int.one_mul]
    omega
  · exact Int.ediv_nonneg (by omega) (by omega)
theorem fig_small {b m : Int} (hb : 2 ≤ b) (hm : m ≤ 60) : figF b m ≤ 6 := by
  have h : m < b ^ (5 + 1) := by
    have h1 := pow_pos (show 1 ≤ b by omega) 5
    have h2 : (64 : Int) ≤ b ^ 6 := by
      have : ∀ j : Nat, (2 : Int) ^ j ≤ b ^ j := fun j => by
        induction j with
        | zero => simp
        | succ j ih =>
          rw [Int.pow_succ, Int.pow_succ]
          exact Int.mul_le_mul ih hb (by decide) (by have := pow_pos (show 1 ≤ b by omega) j; omega)
      have := this 6
      omega
    show m < b ^ 6
    omega
  have := isF_upper (m := 5) hb h (figF_is hb)
  omega
theorem figF_le {b n : Int} (hb : 2 ≤ b) (hn : 0 ≤ n) : figF b n ≤ n + 1 := by
  have h1 := figF_lip (b := b) hb hn
  have h2 : figF b 0 ≤ 1 := by
    have := isF_upper (m := 0) hb (show (0 : Int) < b ^ (0 + 1) by rw [pow_one]; omega) (figF_is hb)
    omega
  omega
/-- a size is no less than 0, and not too great -/
theorem gr_le {b : Int} {w : Wr} (hb : 2 ≤ b) (h : w.ok) {n : Int} (hn : 0 ≤ n) : 0 ≤ w.gr b n ∧ w.gr b n ≤ 128 * n + 4096 := by
  cases w with
  | plus c =>
    simp only [Wr.ok] at h
    simp only [Wr.gr]
    omega
  | told c =>
    simp only [Wr.ok] at h
    simp only [Wr.gr]
    have h1 := figF_le (b := b) hb hn
    have h2 := figF_pos (b := b) (n := n) hb
    omega
  | whole c =>
    simp only [Wr.ok] at h
    simp only [Wr.gr]
    have t := totF_is hb (show 0 ≤ n + c by omega)
    have h1 := isTot_pos t.tot
    have f := figF_is (b := b) (n := n + c) hb
    have g := figF_is (b := b) (n := n + c + figF b (n + c)) hb
    have fl := figF_le (b := b) (n := n + c) hb (by omega)
    rcases fig_grow hb (show 0 ≤ n + c by omega) f g with e | e
    · have := t.least _ (isTot_first hb f (by rw [e] at g; exact g)).tot
      omega
    · have := t.least _ (isTot_second hb (show 0 ≤ n + c by omega) f (by rw [← e]; exact g)).tot
      omega
  | pieces m c =>
    simp only [Wr.ok] at h
    simp only [Wr.gr]
    have f1 := fig_small (b := b) (m := m) hb h.2.1
    have f2 := figF_pos (b := b) (n := m) hb
    have q0 := Int.ediv_nonneg hn (show 0 ≤ m by omega)
    have q1 : n / m ≤ n := Int.ediv_le_self _ hn
    have r0 := Int.emod_nonneg n (show m ≠ 0 by omega)
    have r1 := Int.emod_lt_of_pos n (show 0 < m by omega)
    have f3 := fig_small (b := b) (m := n % m) hb (by omega)
    have f4 := figF_pos (b := b) (n := n % m) hb
    have p0 := Int.mul_nonneg q0 (show 0 ≤ m + c + figF b m by omega)
    have p1 := Int.mul_le_mul q1 (show m + c + figF b m ≤ 126 by omega) (by omega) hn
    split <;> omega
  | cut m c =>
    simp only [Wr.ok] at h
    simp only [Wr.gr]
    have q := beg_le hn h.1
    have p0 := Int.mul_nonneg q.2 (show 0 ≤ c by omega)
    have p1 := Int.mul_le_mul q.1 (show c ≤ 60 by omega) (by omega) hn
    omega
  | coded m c =>
    simp only [Wr.ok] at h
    simp only [Wr.gr]
    have q := beg_le hn h.1
    have p0 := Int.mul_nonneg q.2 (show 0 ≤ c by omega)
    have p1 := Int.mul_le_mul q.1 (show c ≤ 120 by omega) (by omega) hn
    omega
  | filled m =>
    simp only [Wr.ok] at h
    simp only [Wr.gr]
    have q := beg_le hn h.1
    have p0 := Int.mul_nonneg q.2 (show 0 ≤ m by omega)
    have p1 := Int.mul_le_mul q.1 (show m ≤ 60 by omega) (by omega) hn
    omega
end Sz
/-! a hook that looks at whatever one wants besides, and the table of ranges -/
namespace Sz
open PySem PySem.Spec PyProof.Rows L2
abbrev AlX : Type := Bool × He.AlT
/-- what an object names, its class's line left out: what the module names is there already -/
def refsX (o : Obj) : List Addr := match o.data with
  | .seq its _ => its.toList.flatMap He.refV
  | .dict es _ => es.toList.flatMap fun e => He.refV e.val
  | .func fd => He.refV fd.code ++ (He.refV fd.defaults ++ (He.refV fd.kwdefaults ++ fd.closure.map (·.2)))
  | .cls cd => [cd.ns]
  | .fields vs => vs.toList.flatMap He.refV
  | .cell (some v) => He.refV v
  | _ => []
def layerX (g : Addr → Option Obj) (as : List Addr) : List Addr := as.flatMap fun a => match g a with
  | some o => refsX o
  | none => []
/-- layer by layer, nothing looked at twice -/
def layersX (g : Addr → Option Obj) : Nat → List Addr → List Addr
  | 0, l => l
  | n + 1, l => l ++ layersX g n (layerX g l)
def asX (g : Addr → Option Obj) (n : Nat) : List Addr := layersX g n [mainGlobals]
def obsX (fb : PySem.W.Frag → Bool) (fa : List He.Fa) (fn : List He.DefD) (ts : List He.Tab) (K : PySem.W.Frag) : AlX := (fb K, He.obsT fa fn ts K)
def valX (fn : List He.DefD) (ts : List He.Tab) (w : World) : AlX := (true, He.valT fn ts w)
def obsXG (n : Nat) (fb : PySem.W.Frag → Bool) (fa : List He.Fa) (fn : List He.DefD) (ts : List He.Tab) (g : Addr → Option Obj) : AlX := obsX fb fa fn ts (He.frG g (asX g n))
def SaysX (fb : PySem.W.Frag → Bool) (fa : List He.Fa) (fn : List He.DefD) (ts : List He.Tab) (w : World) (K : PySem.W.Frag) : Prop := obsX fb fa fn ts K = valX fn ts w
def hookX (n : Nat) (fb : PySem.W.Frag → Bool) (fa : List He.Fa) (fn : List He.DefD) (ts : List He.Tab) : PySem.W.Hook where
  α := AlX
  obs := fun s => obsXG n fb fa fn ts s.heap.get?
  val := fun w => valX fn ts w
  says := fun w h => ∃ K : PySem.W.Frag, K.In h ∧ SaysX fb fa fn ts w K
  of := fun _ _ e => ⟨_, He.frG_in, e⟩
  keeps := fun _ _ _ ⟨K, hK, c⟩ k => ⟨K, PySem.W.Frag.In.keeps hK k, c⟩
theorem obsXG_eq {n : Nat} {fb : PySem.W.Frag → Bool} {fa : List He.Fa} {fn : List He.DefD} {ts : List He.Tab} {g : Addr → Option Obj} {s : Shared} (h : ∀ a, g a = s.heap.get? a) : obsXG n fb fa fn ts g = (hookX n fb fa fn ts).obs s := by
  rw [show g = s.heap.get? from funext h]
  rfl
section
variable {fb : PySem.W.Frag → Bool} {fa : List He.Fa} {fn : List He.DefD} {ts : List He.Tab} {w : World} {K : PySem.W.Frag}
theorem SaysX.t (c : SaysX fb fa fn ts w K) : He.SaysT fa fn ts w K := congrArg (fun z : AlX => z.2) c
theorem SaysX.b (c : SaysX fb fa fn ts w K) : fb K = true := congrArg (fun z : AlX => z.1) c
end
/-! ### the table of ranges: tuples of pairs -/
def pairB (K : PySem.W.Frag) (u : Value) (q : Int × Int) : Bool := match u with
  | .ref a => (match K.lookup a with
    | some ⟨.type c, _, .seq its _, _⟩ => decide (c = "tuple") && (decide (its.size ≤ sizeLine) && He.relAll [.int q.1, .int q.2] its.toList)
    | _ => false)
  | _ => false
def pairsB (K : PySem.W.Frag) : List Value → List (Int × Int) → Bool
  | [], [] => true
  | u :: us, q :: qs => pairB K u q && pairsB K us qs
  | _, _ => false
def rngB (K : PySem.W.Frag) (D : Addr) (kd : Str) (qs : List (Int × Int)) : Bool := match PySem.W.nsIn K D kd with
  | some (some (.ref b)) => (match K.lookup b with
    | some ⟨.type c, _, .seq its _, _⟩ => decide (c = "tuple") && (decide (its.size ≤ sizeLine) && pairsB K its.toList qs)
    | _ => false)
  | _ => false
inductive Pairs (K : PySem.W.Frag) : List V → List (Int × Int) → Prop where
  | nil : Pairs K [] []
  | cons {a : Addr} {xs : List V} {q : Int × Int} {qs : List (Int × Int)} (h : ∀ H, SqT K H a [.int q.1, .int q.2]) (r : Pairs K xs qs) : Pairs K (.ref a :: xs) (q :: qs)
theorem Pairs.len {K : PySem.W.Frag} {xs : List V} {qs : List (Int × Int)} (h : Pairs K xs qs) : xs.length = qs.length := by
  induction h with
  | nil => rfl
  | cons _ _ ih => exact congrArg (· + 1) ih
theorem Pairs.get {K : PySem.W.Frag} {xs : List V} {qs : List (Int × Int)} (h : Pairs K xs qs) : ∀ {i : Nat} {x : V}, xs[i]? = some x → ∃ (a : Addr) (q : Int × Int), x = .ref a ∧ qs[i]? = some q ∧ ∀ H, SqT K H a [.int q.1, .int q.2] := by
  induction h with
  | nil =>
    intro i x e
    simp at e
  | cons h _ ih =>
    intro i x e
    cases i with
    | zero =>
      simp at e
      exact ⟨_, _, e.symm, rfl, h⟩
    | succ i => exact ih (by simpa using e)
theorem pairB_ok {K : PySem.W.Frag} {u : Value} {q : Int × Int} (h : pairB K u q = true) : ∃ a, u = .ref a ∧ ∀ H, SqT K H a [.int q.1, .int q.2] := by
  cases u with
  | ref a =>
    refine ⟨a, rfl, fun H => ?_⟩
    have h : (match K.lookup a with
      | some ⟨.type c, _, .seq its _, _⟩ => decide (c = "tuple") && (decide (its.size ≤ sizeLine) && He.relAll [.int q.1, .int q.2] its.toList)
      | _ => false) = true := h
    cases e : K.lookup a with
    | none =>
      rw [e] at h
      cases h
    | some o =>
      obtain ⟨oc, od, dt, osl⟩ := o
      rw [e] at h
      cases oc with
      | type c =>
        cases dt with
        | seq its n =>
          obtain ⟨h1, h2⟩ := He.ba h
          obtain ⟨h3, h4⟩ := He.ba h2
          exact .inr ⟨_, its, n, e, congrArg Value.type (of_decide_eq_true h1), rfl, of_decide_eq_true h3, He.relAll_ok h4⟩
        | _ => cases h
      | _ => cases dt <;> cases h
  | _ => cases h
theorem pairsB_ok {K : PySem.W.Frag} : ∀ {us : List Value} {qs : List (Int × Int)}, pairsB K us qs = true → ∃ xs, Vals xs us ∧ Pairs K xs qs
  | [], [], _ => ⟨[], .nil, .nil⟩
  | [], _ :: _, h => by cases h
  | _ :: _, [], h => by cases h
  | u :: us, q :: qs, h => by
    obtain ⟨h1, h2⟩ := He.ba (show (pairB K u q && pairsB K us qs) = true from h)
    obtain ⟨a, rfl, ha⟩ := pairB_ok h1
    obtain ⟨xs, r, p⟩ := pairsB_ok h2
    exact ⟨.ref a :: xs, .cons rfl r, .cons ha p⟩
/-- the kind kd has these ranges -/
def Rng (K : PySem.W.Frag) (D : Addr) (kd : Str) (qs : List (Int × Int)) : Prop := ∃ b xs, PySem.W.nsIn K D kd = some (some (.ref b)) ∧ (∀ H, SqT K H b xs) ∧ Pairs K xs qs
theorem rngB_ok {K : PySem.W.Frag} {D : Addr} {kd : Str} {qs : List (Int × Int)} (h : rngB K D kd qs = true) : Rng K D kd qs := by
  unfold rngB at h
  cases e : PySem.W.nsIn K D kd with
  | none =>
    rw [e] at h
    cases h
  | some r =>
    rw [e] at h
    cases r with
    | none => cases h
    | some u =>
      cases u with
      | ref b =>
        have h : (match K.lookup b with
          | some ⟨.type c, _, .seq its _, _⟩ => decide (c = "tuple") && (decide (its.size ≤ sizeLine) && pairsB K its.toList qs)
          | _ => false) = true := h
        cases e2 : K.lookup b with
        | none =>
          rw [e2] at h
          cases h
        | some o =>
          obtain ⟨oc, od, dt, osl⟩ := o
          rw [e2] at h
          cases oc with
          | type c =>
            cases dt with
            | seq its n =>
              obtain ⟨h1, h2⟩ := He.ba h
              obtain ⟨h3, h4⟩ := He.ba h2
              obtain ⟨xs, r, p⟩ := pairsB_ok h4
              exact ⟨b, xs, e, fun H => .inr ⟨_, its, n, e2, congrArg Value.type (of_decide_eq_true h1), rfl, of_decide_eq_true h3, r⟩, p⟩
            | _ => cases h
          | _ => cases dt <;> cases h
      | _ => cases h
/-- RANGES[kind] -/
theorem ix_kd {X : Cx} {d : Addr} {es : Array DictEntry} {n : Nat} (D : KDict X.K X.w d es n) : True := trivial
end Sz
/-! own classes: methods and makers by their promises -/
namespace Sz
open PySem PySem.Spec PyProof.Rows L2
/-- a method's def by its class -/
def DefAtM (K : PySem.W.Frag) (C m q : Str) (st : Stmt) : Prop := ∃ fd, FunD K m q (defArgs st) (defBody st) (defScope st) [] [] (He.ma K (He.ga K C) m) fd
/-- the method m of C keeps the promise sp (the receiver stands first) -/
structure PromM (P : Program) (w : World) (K : PySem.W.Frag) (mg : Str → Option Value) (base : Heap) (CX : CXT) (k : Nat) (C m : Str) (ps : List Str) (sp : Sp) : Prop where
  cl : Cls K (He.ga K C)
  me : Meth K (He.ga K C) m (He.ma K (He.ga K C) m)
  ex : ∃ fd, FnOk P w K mg base CX k (He.ma K (He.ga K C) m) fd ps sp ∧ Binds K fd ps []
/-- C(..) keeps the promise sp: what is told of the values handed in -/
structure PromC (P : Program) (w : World) (K : PySem.W.Frag) (mg : Str → Option Value) (base : Heap) (CX : CXT) (k : Nat) (C : Str) (sp : Sp) : Prop where
  make : Mk K (He.ga K C) (He.ma K (He.ga K C) "__init__")
  mg_ : mg C = some (.ref (He.ga K C))
  ex : ∃ sp0, FnR P w K mg base CX k (He.ma K (He.ga K C) "__init__") sp0 ∧ ∀ vs H Q E, sp vs H Q E → ∀ x dx, H x = none → H dx = none → dx ≠ x →
    sp0 (V.ref x :: vs) (upd (upd H dx (.own x)) x (.ins (He.ga K C) dx [])) (fun v H2 => v = .non ∧ Q (.ref x) H2) E
section
variable {P : Program} {w : World} {K : PySem.W.Frag} {mg : Str → Option Value} {base : Heap}
theorem PromM.of {C m q : Str} {st : Stmt} {ps N : List Str} {sp : Sp} {k : Nat} (cl : Cls K (He.ga K C)) (me : Meth K (He.ga K C) m (He.ma K (He.ga K C) m)) (D : DefAtM K C m q st) (S : FnScope N ps (defScope st)) (len : ∀ vs H Q E, sp vs H Q E → vs.length = ps.length)
    (hb : ∀ (kV doc pm : Value) (an : Option Addr) (cdv ct : Value) (us : List Value), us.length = ps.length → bindArgs (PySem.W.fnOf m q (defArgs st) (defBody st) (defScope st) .none kV doc pm an cdv ct) ⟨us, []⟩ = pure (ps.zip us))
    (hbody : ∀ (f : Addr) (cdv : Value) (A : Around) (outer : List Env) (s : Shared) (H : Hp) (vs : List V) (Q : VK) (E : XK), Room k (A.deeper (envOfC q (defScope st) s.heap.objs.size f cdv)) → sp vs H Q E →
      ∃ t, PSs (cxOf CX0 P w K mg base N q (defScope st) f cdv A outer s H E).nox (defBody st) t ∧ t { nx := fun _ H' => Q .non H', rt := Q } (start N vs) H) :
    PromM P w K mg base CX0 (k + 1) C m ps sp := by
  obtain ⟨fd, F⟩ := D
  refine ⟨cl, me, fd, F.ok S len (fun cdv A outer s H vs Q E hr hs => ?_), F.bindsN hb⟩
  obtain ⟨t, h1, h2⟩ := hbody _ cdv A outer s H vs Q E hr hs
  exact ⟨t, h1.nox, h2⟩
/-- a class whose __init__ takes (self, one, *rest) -/
theorem PromC.star {C q p0 p1 pv : Str} {st : Stmt} {N : List Str} {sp sp0 : Sp} {k : Nat} (mk : Mk K (He.ga K C) (He.ma K (He.ga K C) "__init__")) (hm : mg C = some (.ref (He.ga K C))) (D : DefAtM K C "__init__" q st) (S : FnScope N [p0, p1, pv] (defScope st))
    (h0 : ∀ (kV doc pm : Value) (an : Option Addr) (cdv ct a b : Value), bindArgs (PySem.W.fnOf "__init__" q (defArgs st) (defBody st) (defScope st) .none kV doc pm an cdv ct) ⟨[a, b], []⟩ = (newTuple [] >>= fun t => pure [(p0, a), (p1, b), (pv, t)]))
    (h1 : ∀ (kV doc pm : Value) (an : Option Addr) (cdv ct a b r : Value) (rs : List Value), bindArgs (PySem.W.fnOf "__init__" q (defArgs st) (defBody st) (defScope st) .none kV doc pm an cdv ct) ⟨a :: b :: r :: rs, []⟩ = (newTuple (r :: rs) >>= fun t => pure [(p0, a), (p1, b), (pv, t)]))
    (hbody : ∀ (f : Addr) (cdv : Value) (A : Around) (outer : List Env) (s : Shared) (H : Hp) (vs : List V) (Q : VK) (E : XK), Room k (A.deeper (envOfC q (defScope st) s.heap.objs.size f cdv)) → sp0 vs H Q E →
      ∃ t, PSs (cxOf CX0 P w K mg base N q (defScope st) f cdv A outer s H E).nox (defBody st) t ∧ t { nx := fun _ H' => Q .non H', rt := Q } (start N vs) H)
    (hsp : ∀ vs H Q E, sp vs H Q E → ∃ v rest, vs = v :: rest ∧ rest.length ≤ sizeLine ∧ ∀ x dx p, H x = none → H dx = none → dx ≠ x → p ≠ x → p ≠ dx → H p = none →
      sp0 [.ref x, v, .ref p] (upd (upd (upd H dx (.own x)) x (.ins (He.ga K C) dx [])) p (.tup rest)) (fun u H2 => u = .non ∧ Q (.ref x) H2) E) :
    PromC P w K mg base CX0 (k + 1) C sp := by
  obtain ⟨fd, F⟩ := D
  obtain ⟨oc, od, dV, kV, doc, pm, an, cdv, ct, osl, rfl, lk, hcd, hD, hK⟩ := F.ex
  rcases hD with ⟨_, rfl⟩ | ⟨e, _⟩
  · refine ⟨mk, hm, _, StX.fn_star (ps := [p0, p1]) (pv := pv) (sp := sp0) lk hcd S StX.cxUp_none (StX.bind_star2 (B := fun us => bindArgs _ ⟨us, []⟩) (fun a b => h0 kV doc pm an cdv ct a b) fun a b r rs => h1 kV doc pm an cdv ct a b r rs) (fun A outer s H vs Q E hr hs => ?_), fun vs H Q E hs x dx hx hdx ne => ?_⟩
    · obtain ⟨t, h1, h2⟩ := hbody _ cdv A outer s H vs Q E hr hs
      exact ⟨t, h1.nox, h2⟩
    · obtain ⟨v, rest, rfl, hl, hq⟩ := hsp vs H Q E hs
      refine ⟨[.ref x, v], rest, rfl, rfl, hl, fun p hp => ?_⟩
      have nx : p ≠ x := fun z => by rw [z, upd_same] at hp; cases hp
      rw [upd_ne nx] at hp
      have nd : p ≠ dx := fun z => by rw [z, upd_same] at hp; cases hp
      rw [upd_ne nd] at hp
      exact hq x dx p hx hdx ne nx nd hp
  · exact absurd rfl e
end
section
variable {X : Cx} {CX : CXT} {k : Nat} {x C m : Str} {ps : List Str} {sp : Sp} {E : XK} {e o : Expr} {es : List Expr} {ta : TE} {t : TA} {p pos apos : Pos}
theorem pe_methP {pl : Sem Bool} (G : PromM X.prog X.w X.K X.mg X.base CX k C m ps sp) (hr : Room k X.A) (hx : Passes CX X E) (he : PE X o ta) (ha : PA X (e :: es) t)
    (hst : starEach (e :: es) X.env = (false, eval e X.env) :: starEach es X.env := by rfl) (hpl : (backTo pos (starEach es X.env)).any (·.1) = false := by rfl)
    (ht : eval (.Call (.Attribute o m apos) (e :: es) [] pos) X.env = (do
      let ov ← eval o X.env
      standAt apos.atName
      let (f, first) ← holding [ov] (getMethod ov m pl)
      callWith pos f first (backTo pos (starEach (e :: es) X.env)) (backToKw pos (keywordEach [] X.env))) := by rfl) : PE X (.Call (.Attribute o m apos) (e :: es) [] pos) (tMeth (He.ga X.K C) m sp [] E ta t) := by
  obtain ⟨fd, F, b⟩ := G.ex
  exact pe_meth he G.cl G.me F hr b .nil hx ha hst hpl ht
theorem pe_methP0 {pl : Sem Bool} (G : PromM X.prog X.w X.K X.mg X.base CX k C m ps sp) (hr : Room k X.A) (hx : Passes CX X E) (he : PE X o ta)
    (ht : eval (.Call (.Attribute o m apos) [] [] pos) X.env = (do
      let ov ← eval o X.env
      standAt apos.atName
      let (f, first) ← holding [ov] (getMethod ov m pl)
      callWith pos f first (backTo pos (starEach [] X.env)) (backToKw pos (keywordEach [] X.env))) := by rfl) : PE X (.Call (.Attribute o m apos) [] [] pos) (tMeth (He.ga X.K C) m sp [] E ta tNil) := by
  obtain ⟨fd, F, b⟩ := G.ex
  exact pe_meth0 he G.cl G.me F hr b .nil hx ht
/-- C(e, ..) by what is promised of it -/
def tNew (sp : Sp) (E : XK) (t : TA) : TE := fun σ H Q => t σ H fun vs H1 => sp vs H1 Q E
theorem pe_newP (G : PromC X.prog X.w X.K X.mg X.base CX k x sp) (hr : Room (k + 1) X.A) (hg : Gl X x) (hx : Passes CX X E) (ha : PA X (e :: es) t)
    (hdb : (x == ("__debug__" : Str)) = false := by decide) (he : starEach (e :: es) X.env = (false, eval e X.env) :: starEach es X.env := by rfl) (hpl : (backTo pos (starEach es X.env)).any (·.1) = false := by rfl) :
    PE X (.Call (.Name x p) (e :: es) [] pos) (tNew sp E t) := by
  obtain ⟨sp0, F, hs⟩ := G.ex
  refine ⟨fun pins s σ H Q I h => wpAny_Call_Name_kw (ld_glob I hg G.mg_ (PySem.W.callWith_K (h₀ := X.base) I.ok.mod.kin G.make.kp (thn (ha.run pos pins s σ H _ I h) fun us s1 ⟨vs, H1, I1, r, q⟩ => ⟨I1.kIn, ?_⟩) he hpl) hdb)⟩
  exact StX.run_makeR G.make F hr hx I1 r fun a dx h1 h2 h3 => hs vs H1 Q E q a dx h1 h2 h3
/-- C(e, .., *y) -/
theorem pe_newS (G : PromC X.prog X.w X.K X.mg X.base CX k x sp) (hr : Room (k + 1) X.A) (hg : Gl X x) (hx : Passes CX X E) (ha : PA X (e :: es) t)
    (hdb : (x == ("__debug__" : Str)) = false := by decide) (he : starEach (e :: es) X.env = (false, eval e X.env) :: starEach es X.env := by rfl) (hst : (backTo pos (starEach es X.env)).any (·.1) = true := by rfl) :
    PE X (.Call (.Name x p) (e :: es) [] pos) (tNew sp E t) := by
  obtain ⟨sp0, F, hs⟩ := G.ex
  refine ⟨fun pins s σ H Q I h => wpAny_Call_Name_kw (ld_glob I hg G.mg_ (PySem.W.callWith_S2 (h₀ := X.base) I.ok.mod.kin G.make.kp (thn (ha.run pos pins s σ H _ I h) fun us s1 ⟨vs, H1, I1, r, q⟩ => ⟨I1.kIn, ?_⟩) he hst) hdb)⟩
  exact StX.run_makeR G.make F hr hx I1 r fun a dx h1 h2 h3 => hs vs H1 Q E q a dx h1 h2 h3
end
/-- s[i], s a list or a tuple -/
theorem ix_any {X : Cx} : IxR X (fun x y H Q => rIxL X.K x y H Q ∨ rIxT X.K x y H Q) := by
  intro value slice pins s σ H x y v u Q I rx ry h hs
  rcases h with h | h
  · exact ix_list value slice pins s σ H x y v u Q I rx ry h hs
  · exact ix_tup value slice pins s σ H x y v u Q I rx ry h hs
theorem pe_gstr {X : Cx} {x : Str} {pos : Pos} {v : Str} (h : ∃ u, X.mg x = some (.str v u)) (hg : Gl X x := by rfl) (hd : (x == ("__debug__" : Str)) = false := by decide) : PE X (.Name x pos) (tC (.str v)) := by
  obtain ⟨u, hm⟩ := h
  exact pe_glob hg hm ⟨_, rfl⟩ hd
/-- what isinstance asks of an own class -/
structure IsiK (K : PySem.W.Frag) (C : Addr) : Prop where
  cl : Cls K C
  ha : PySem.W.findIn K (.ref C) "__class__" = some (some (.builtin "object.__class__"))
  hn : PySem.W.specialIn K (.builtin "object.__class__") "__get__" = some (some (.builtin "getset_descriptor.__get__"))
  htk : PySem.W.takesIn K (.builtin "object.__class__") = some true
  hm : PySem.W.mroIn K C (.type "object") = some true
def isiB (K : PySem.W.Frag) (C : Addr) : Bool := He.eqO (PySem.W.findIn K (.ref C) "__class__") (some (some (.builtin "object.__class__"))) && (He.eqO (PySem.W.specialIn K (.builtin "object.__class__") "__get__") (some (some (.builtin "getset_descriptor.__get__"))) &&
  (decide (PySem.W.takesIn K (.builtin "object.__class__") = some true) && decide (PySem.W.mroIn K C (.type "object") = some true)))
theorem isiB_ok {K : PySem.W.Frag} {C : Addr} (cl : Cls K C) (h : isiB K C = true) : IsiK K C := by
  obtain ⟨h1, h⟩ := He.ba h
  obtain ⟨h2, h⟩ := He.ba h
  obtain ⟨h3, h4⟩ := He.ba h
  exact ⟨cl, He.eqO_ok h1, He.eqO_ok h2, of_decide_eq_true h3, of_decide_eq_true h4⟩
theorem IsiK.ty {K : PySem.W.Frag} {C : Addr} (i : IsiK K C) {H : Hp} {a dx : Addr} {fs : List (Str × V)} (h : H a = some (.ins C dx fs)) : TyX K H (.ref a) (.ref C) := .base (.ins h i.cl i.ha i.hn i.htk i.hm)
theorem kit_self {K : PySem.W.Frag} {t : Value} : PySem.W.kitOne K t t = some true := by
  unfold PySem.W.kitOne
  rw [if_pos (by simp)]
end Sz
/-! enumerate over a tuple (the hand layer has it for lists): by what the tuple's iterator draws -/
namespace Sz
open PySem PySem.Spec PyProof.Rows L2
/-- enumerate(v) where iter(v) begins an object o -/
theorem meets_enum1 {v : Value} {o : Obj} {Hh : Heap → Prop} (B : Begins v o Hh) : Meets (Builtin.«enumerate.__new__» ⟨[.type "enumerate", v], []⟩) (fun _ R s => Hh s.heap ∧ R (.ok (.ret (.ref (s.heap.push o).objs.size)))
    { s with heap := (s.heap.push o).push { cls := .type "enumerate", data := .fields #[.none, .bool false, .ref s.heap.objs.size, rawInt 0, .none, .none] } }) := .of_wp fun prog w A R s h => by
  obtain ⟨hp, g, d, tk, os⟩ := s
  have hsub := sub_enumerate
  have it1 : ∀ {A' : Around} {Ex : Value → Shared → Prop} {Q : Value → Shared → Prop}, Q (.ref hp.objs.size) ⟨hp.push o, g, d, tk, os⟩ → wpAny (model prog w) A' (pyIter v) Q Ex ⟨hp, g, d, tk, os⟩ := fun q => B.iter prog w _ _ ⟨hp, g, d, tk, os⟩ _ h.1 q
  wp_walk using it1
  refine wpAny_stack_any (fun st => wpAny_pure ?_)
  split
  · rename_i c _ _ _ _ _
    cases (c == Value.type "enumerate") <;> (wp_walk using it1; exact ⟨_, rfl, h.2⟩)
  · wp_walk using it1
    exact ⟨_, rfl, h.2⟩
theorem call_enum1 {prog : Program} {w : World} {A : Around} {Ex : Value → Shared → Prop} {s : Shared} {v : Value} {o : Obj} {Hh : Heap → Prop} {Q : Value → Shared → Prop} (B : Begins v o Hh) (h1 : Hh s.heap)
    (k : ∀ h', IsEnum h' (s.heap.objs.size + 1) s.heap.objs.size 0 .none → h'.get? s.heap.objs.size = some o → (∀ b u, s.heap.get? b = some u → h'.get? b = some u) → Q (.ref (s.heap.objs.size + 1)) { s with heap := h' }) :
    wpAny (model prog w) A (call (.type "enumerate") [v]) Q Ex s := by
  refine callType_new F.called_enumerate (by decide) (F.typeCall_enumerate_1 _) (F.newCall_enumerate_1 _) (fun obj => F.args_object_init_2 obj _) F.entry_enumerate_new (meets_enum1 B) ⟨h1, ?_⟩
  have z : (s.heap.push o).objs.size = s.heap.objs.size + 1 := Heap.size_push ..
  have e := Heap.get?_push_size (s.heap.push o) (o := { cls := .type "enumerate", data := .fields #[.none, .bool false, .ref s.heap.objs.size, rawInt 0, .none, .none] }) rfl
  rw [z] at e
  show _ ∧ _
  rw [z]
  exact ⟨⟨_, e, rfl⟩, k _ e (Heap.get?_push_of_some _ (Heap.get?_push_size _ B.free)) fun b u x => Heap.get?_push_of_some _ (Heap.get?_push_of_some _ x)⟩

/-- the tuple at a, each item in a new pair -/
def IteT (K : PySem.W.Frag) (a : Addr) : It where
  go := fun i H => ∃ (xs : List V) (x : V), SqT K H a xs ∧ xs[i]? = some x
  yld := fun i H v H' => ∃ T x, v = .ref T ∧ H T = none ∧ H' = upd H T (.tup [.int (i : Nat), x]) ∧ ∀ xs, SqT K H a xs → xs[i]? = some x
  stop := fun i H => ∃ xs : List V, SqT K H a xs ∧ xs.length ≤ i
section
variable {X : Cx} {pins : List (Addr × Obj)} {σ : L2.St} {H : Hp} {s : Shared} {a e it : Addr} {i : Nat} {old : Value} {its : List Value}
theorem enumT_walks (hd : X.A.handled = none) (he : IsEnum s.heap e it ((i : Nat) : Int) old) (hit : s.heap.IsTupleIter it a i) (hne : e ≠ it) (p : s.heap.IsTuple a its.toArray) :
    WalksT X.prog X.w X.A e [e, it, a] [e, it] its.toArray.size (fun i vals => ∃ t x, its.toArray[i]? = some x ∧ vals = #[.int i t, x]) (fun i h => (∃ old, IsEnum h e it i old) ∧ h.IsTupleIter it a i ∧ h.IsTuple a its.toArray)
      (fun i T h => (∃ x, IsEnumOut h e it ((i : Int) + 1) x T) ∧ (h.IsTupleIter it a (i + 1) ∧ h.IsTuple a its.toArray) ∧ T ≠ e ∧ T ≠ it) := by
  have n1 : a ≠ it := fun z => by
    obtain ⟨o1, q1, c1, _⟩ := p
    obtain ⟨o2, q2, c2, _⟩ := hit
    rw [z, q2] at q1
    cases q1
    exact absurd (c2.symm.trans c1) (by decide)
  have n2 : e ≠ a := fun z => by
    obtain ⟨o1, q1, c1, _⟩ := p
    have he' : s.heap.get? e = _ := he
    rw [z, q1] at he'
    cases he'
    have c1 : Value.type "enumerate" = Value.type "tuple" := c1
    exact absurd c1 (by decide)
  exact WalksT.enumerateD (A := X.A) (Draws.tuple (A := X.A.in1) hd it a n1 its.toArray) e hne (by simp [hne, n2]) (by simp)
end
theorem enumT_done {prog : Program} {w : World} {A : Around} {Ex : Value → Shared → Prop} {s : Shared} {a e it : Addr} {i : Nat} {old : Value} {items : Array Value} {Q : Option Value → Shared → Prop} (hh : A.handled = none) (he : IsEnum s.heap e it ((i : Nat) : Int) old)
    (hit : s.heap.IsTupleIter it a i) (p : s.heap.IsTuple a items) (hx : items[i]? = none) (k : ∀ h', Heap.ExtBut it s.heap h' → Q none { s with heap := h' }) : wpAny (model prog w) A (pyNext (.ref e)) Q Ex s := by
  unfold pyNext
  refine wpAny_bind (wpAny_attempt (wpAny_callSpecial?_slot (name := Str.ofString "__next__") ⟨_, he, rfl⟩ F.slot_enumerate_next (wpAny_call_entry F.slot_enumerate_next ⟨_, he, rfl⟩ F.entry_enumerate_next ?_ (F.args_enumerate_next_1 _))))
  show wpAny _ _ (field (.ref e) 2 >>= _) _ _ s
  refine wpAny_bind (wpAny_field he rfl (x := .ref it) rfl (wpAny_bind (wpAny_nextOf_tuple_end hh hit p hx fun h' x ext ⟨o, ho, hc⟩ => ?_)))
  exact wpAny_bind (wpAny_isInstance (T := "StopIteration") (b := true) ⟨o, ho, hc⟩ isSubtype_stop (wpAny_pure (k _ ext)))
theorem turn_enumT {P : Program} {w : World} {K : PySem.W.Frag} {elts : List Expr} {kk : Nat} {tpos : Pos} (a e it : Addr) :
    Turn P w K (.Tuple elts kk tpos) (IteT K a) [e, it] e (fun i h => (∃ old, IsEnum h e it ((i : Nat) : Int) old) ∧ h.IsTupleIter it a i ∧ e ≠ it) where
  mem := List.mem_cons_self ..
  obj := fun i h st b hb => by
    obtain ⟨⟨old, he⟩, ⟨o, ho, _, hd⟩, _⟩ := st
    rcases List.mem_cons.mp hb with z | z
    · subst z
      exact ⟨_, he, fun v q => nomatch q⟩
    · rw [List.mem_singleton.mp z]
      exact ⟨o, ho, fun v q => by rw [hd] at q; cases q⟩
  keep := fun i h h' ⟨⟨old, he⟩, hi, hne⟩ k => ⟨⟨old, k e (List.mem_cons_self ..) _ he⟩, hi.at fun o q => k it (List.mem_cons_of_mem _ (List.mem_cons_self ..)) o q, hne⟩
  item := by
    intro X hP hw hK hc i pins s σ H E I hf ⟨⟨old, he⟩, hit, hne⟩ ⟨xs, x, hq, hx⟩
    subst hP hw hK
    obtain ⟨its, rv, p, hz⟩ := I.tuple hq
    obtain ⟨u, hu, ru⟩ := rv.get hx
    have p' : s.heap.IsTuple a its.toArray := p
    have W := enumT_walks (X := X) (I.ok.hd hc) he hit hne p'
    have hlt : i < its.toArray.size := by simpa using (List.getElem?_eq_some_iff.mp hu).1
    refine W.item i s _ E hlt ⟨⟨old, he⟩, hit, p'⟩ fun T vals h' tk hv hT isT mid k1 => ⟨_, rfl, ?_⟩
    obtain ⟨t, y, hy, rfl⟩ := hv
    have ey : u = y := by
      have e1 : its.toArray[i]? = some u := by simpa using hu
      exact Option.some.inj (e1.symm.trans hy)
    subst ey
    refine W.go elts kk tpos i T { s with heap := h', toks := tk } _ E mid fun h2 st2 k2 => ?_
    have away := W.apart i T h' mid
    obtain ⟨oT, hoT, cT, nT, dT⟩ := isT
    have hoT2 : h2.get? T = some oT := k2 T oT away hoT
    have new : ObjOk X.prog X.w (upd H T (.tup [.int (i : Nat), x])) h2 T (.tup [.int (i : Nat), x]) := ⟨by show 2 ≤ sizeLine; decide, [.int i t, u], .cons ⟨_, rfl⟩ (.cons ru .nil), ⟨oT, hoT2, cT, nT, dT⟩⟩
    have I1 : Inv X pins σ (upd H T (.tup [.int (i : Nat), x])) { s with heap := h2, toks := tk } := I.turnedNew (ch := [e, it]) (fun b ob hb q => k2 b ob hb (k1 b ob hb q)) hf hT new
    refine ⟨.ref T, _, I1, rfl, ⟨T, x, rfl, I.hok.fresh hT, rfl, fun ys hy => by rw [I.tuple_inj hy hq]; exact hx⟩, ⟨st2.1, st2.2.1, hne⟩, fun b hb => ?_⟩
    have nb : b ≠ T := fun z => away (by rw [← z]; exact hb)
    rw [upd_ne nb]
    exact (hf b hb).1
  done := by
    intro X hP hw hK hc i pins s σ H E I hf ⟨⟨old, he⟩, hit, hne⟩ ⟨xs, hq, hx⟩
    subst hP hw hK
    obtain ⟨its, rv, p, hz⟩ := I.tuple hq
    have p' : s.heap.IsTuple a its.toArray := p
    have hl := rv.length
    obtain ⟨o, ho, cT, nT, dT⟩ := id p'
    obtain ⟨f0, f1, f2, f3, f4, f5⟩ := hf it (List.mem_cons_of_mem _ (List.mem_cons_self ..))
    refine enumT_done (I.ok.hd hc) he hit p' (by simp; omega) fun h' ex => ⟨rfl, I.turned (t' := s.toks) (fun b ob hb q => ex b ob hb q) f0 f1 f3 f4 f5⟩
  self := fun A i s Q E ⟨⟨_, he⟩, _⟩ h => wpAny_pyIter_enum he h
def iEnumT (K : PySem.W.Frag) (ta : TA) : TI := fun σ H R => ta σ H fun vs H1 => ∃ a xs, vs = [.ref a] ∧ SqT K H1 a xs ∧ R (IteT K a) H1
theorem pi_enumT {X : Cx} {e : Expr} {ta : TA} {p pos tpos : Pos} {elts : List Expr} {kk : Nat} (hg : Gl X "enumerate") (hm : X.mg "enumerate" = none) (ha : PA X [e] ta) (hs : starEach [e] X.env = [(false, eval e X.env)] := by rfl) :
    PI X (.Tuple elts kk tpos) (.Call (.Name "enumerate" p) [e] [] pos) (iEnumT X.K ta) := by
  refine ⟨fun pins s σ H R I h => Call_ (ld_blt I hg hm boot_enumerate (PyProof.Rows.callWith_type1 (thn (ha.run pos pins s σ H _ I h) fun us s1 ⟨vs, H1, I1, r1, q1⟩ => ?_) hs rfl))⟩
  obtain ⟨a, xs, rfl, hq, q⟩ := q1
  cases r1 with
  | cons r rr =>
    cases rr
    cases r
    obtain ⟨its, rv, p', hz⟩ := I1.tuple hq
    refine call_enum1 (begins_tuple a its.toArray) (show s1.heap.IsTuple a its.toArray from p') fun h' he hit hk => wpAny_pyIter_enum he ?_
    refine ⟨s1.heap.objs.size + 1, [s1.heap.objs.size + 1, s1.heap.objs.size], _, _, H1, rfl, I1.kept (t' := s1.toks) hk, turn_enumT a _ _, ⟨⟨.none, he⟩, ⟨_, hit, rfl, rfl⟩, Nat.succ_ne_self _⟩, fun b hb => ?_, q⟩
    have hle : s1.heap.objs.size ≤ b := by
      rcases List.mem_cons.mp hb with z | z
      · rw [z]
        exact Nat.le_add_right _ 1
      · rw [List.mem_singleton.mp z]
        exact Nat.le_refl _
    exact I1.fpOk hle (I1.hok.fresh hle)
theorem walk_enumT {K : PySem.W.Frag} {a : Addr} {xs : List V} : Walk (IteT K a) xs.length (fun H => SqT K H a xs) (YPair (fun i => some (.int (i : Nat))) (fun i => xs[i]?)) :=
  ⟨fun i _ hi q => ⟨xs, xs[i], q, by simp [hi]⟩, fun _ q => ⟨xs, q, Nat.le_refl _⟩, fun i H v H' _ q ⟨T, x, h1, h2, h3, h4⟩ => ⟨T, .int (i : Nat), x, h1, h2, h3, rfl, h4 xs q⟩⟩
end Sz
namespace Sz
open PySem PySem.Spec PyProof.Rows L2
/-! ### ranges of integers of any size -/
theorem turn_long {P : Program} {w : World} {K : PySem.W.Frag} {tg : Expr} (it : Addr) (lo : Int) (n : Nat) :
    Turn P w K tg (Itr lo n) [it] it (fun i h => IsLongIter h it (lo + (i : Nat) * 1) ((n : Int) - (i : Nat)) 1) := by
  have fpit : ∀ {X : Cx} {pins : List (Addr × Obj)} {σ : L2.St} {H : Hp} {s : Shared} {h' : Heap} {tk : Nat}, Inv X pins σ H s → FpOk X pins H it → (∀ b o, b ≠ it → s.heap.get? b = some o → h'.get? b = some o) → Inv X pins σ H { s with heap := h', toks := tk } := fun I f k => by
    obtain ⟨g0, g1, _, g3, g4, g5⟩ := f
    exact I.turned k g0 g1 g3 g4 g5
  constructor
  · exact List.mem_singleton_self it
  · intro i h z b hb
    cases List.mem_singleton.mp hb
    refine ⟨_, z, fun v y => ?_⟩
    have y' : Data.fields _ = Data.cell v := y
    cases y'
  · exact fun i h h' z keep => keep it (List.mem_singleton_self it) _ z
  · intro X e1 e2 e3 calm i pins s σ H E I fp z go
    subst e1 e2 e3
    have wk := Walks.longrange (prog := X.prog) (w := X.w) (I.ok.hd calm) it lo 1 n
    refine wk.item i s _ _ go z ?_
    rintro v h' tk ⟨t, rfl⟩ z' kp
    have J := fpit (tk := tk) I (fp it (List.mem_singleton_self it)) fun b o hb e => kp b o (by simpa using hb) e
    refine ⟨_, rfl, go_of (s := { s with heap := h', toks := tk }) (n := "longrange_iterator") z' rfl rfl (by decide) ?_⟩
    exact ⟨.int (lo + i), H, J, ⟨t, by rw [Int.mul_one]⟩, ⟨rfl, rfl⟩, z', fun b hb => (fp b hb).1⟩
  · intro X e1 e2 e3 calm i pins s σ H E I fp z stop
    subst e1 e2 e3
    refine wpAny_pyNext_long_end (I.ok.hd calm) z (by have : n ≤ i := stop; omega) fun h' eb => ⟨rfl, ?_⟩
    exact fpit (tk := s.toks) I (fp it (List.mem_singleton_self it)) eb
  · exact fun A i s Q E z h => wpAny_pyIter_longiter z h
section
variable {X : Cx} {tg : Expr}
theorem range_any {pins : List (Addr × Obj)} {σ : L2.St} {H : Hp} {s : Shared} {R : It → Hp → Prop} {E : Value → Shared → Prop} {lo hi : Int} {t u v : Tok} {tk : Nat} (I : Inv X pins σ H s)
    (q : R (Itr lo (hi - lo).toNat) H) : wpAny (model X.prog X.w) X.A (pyIter (.ref s.heap.objs.size)) (PIE X pins σ tg R) E { s with heap := s.heap.push { cls := .type "range", data := .fields #[.int lo t, .int hi u, .int 1 v] }, toks := tk } := by
  generalize hr : s.heap.push { cls := .type "range", data := .fields #[.int lo t, .int hi u, .int 1 v] } = hp
  have J : Inv X pins σ H { s with heap := hp, toks := tk } := by
    rw [← hr]
    exact I.kept fun b o e => Heap.get?_push_of_some _ e
  have fresh : ∀ b ∈ [hp.objs.size], FpOk X pins H b := fun b hb => by
    cases List.mem_singleton.mp hb
    exact J.fpOk (Nat.le_refl _) (J.hok.fresh (Nat.le_refl _))
  have ir : IsRange hp s.heap.objs.size lo hi 1 t u v := by
    rw [← hr]
    exact IsRange.new ..
  have x0 : lo + ((0 : Nat) : Int) * 1 = lo := by simp
  have n0 : (((hi - lo).toNat : Nat) : Int) - ((0 : Nat) : Int) = Builtin.Range.rangeSize lo hi 1 := by
    rw [rangeSize_one]
    split <;> omega
  cases sm : Builtin.Range.small lo hi 1 with
  | true =>
    refine wpAny_pyIter_range ir sm ?_
    refine ⟨hp.objs.size, [hp.objs.size], _, _, H, rfl, J.kept (t' := tk) fun b o e => Heap.get?_push_of_some _ e, turn_range _ lo (hi - lo).toNat, ?_, fresh, q⟩
    show IsRangeIter _ _ (lo + ((0 : Nat) : Int) * 1) ((((hi - lo).toNat : Nat) : Int) - ((0 : Nat) : Int)) 1
    rw [x0, n0]
    exact Heap.get?_push_size hp rfl
  | false =>
    refine wpAny_pyIter_longrange ir sm ?_
    refine ⟨hp.objs.size, [hp.objs.size], _, _, H, rfl, J.kept (t' := tk) fun b o e => Heap.get?_push_of_some _ e, turn_long _ lo (hi - lo).toNat, ?_, fresh, q⟩
    show IsLongIter _ _ (lo + ((0 : Nat) : Int) * 1) ((((hi - lo).toNat : Nat) : Int) - ((0 : Nat) : Int)) 1
    rw [x0, n0]
    exact Heap.get?_push_size hp rfl
def iRngA (ta : TA) : TI := fun σ H R => ta σ H fun vs H1 => ∃ i j : Int, vs = [.int i, .int j] ∧ R (Itr i (j - i).toNat) H1
theorem pi_range2A {a b : Expr} {ta : TA} {p pos : Pos} (hg : Gl X "range") (hm : X.mg "range" = none) (ha : PA X [a, b] ta) (s1 : starEach [a, b] X.env = [(false, eval a X.env), (false, eval b X.env)] := by rfl) (s2 : starEach [b] X.env = [(false, eval b X.env)] := by rfl) :
    PI X tg (.Call (.Name "range" p) [a, b] [] pos) (iRngA ta) := by
  constructor
  intro pins s σ H R I h
  refine Call_ (ld_blt I hg hm boot_range (PyProof.Rows.callWith_type1 (thn (ha.run pos pins s σ H _ I h) ?_) (by rw [s1, s2]) (by rw [s2]; rfl)))
  rintro us sA ⟨vs, H1, I1, r1, i, j, rfl, q⟩
  obtain ⟨t, t', rfl⟩ := Vals.int2 r1
  exact call_range_2 (range_any I1 q)
end
end Sz
namespace Sz
open PySem PySem.Spec PyProof.Rows L2
/-! ### list(range(a, b)) of integers of any size -/
section
variable {prog : Program} {w : World} {A : Around} {E : Value → Shared → Prop} {s : Shared}
/-- L.extend(range(a, b)), L empty -/
theorem extend_long {R : Result → Shared → Prop} {r : Addr} {a b : Int} {t u v : Tok} {n : Nat} (calm : A.handled = none) (ir : IsRange s.heap r a b 1 t u v) (big : Builtin.Range.small a b 1 = false) (size : Builtin.Range.rangeSize a b 1 = n) (few : n ≤ 2 ^ 24)
    (L : Addr) (out : Value) (c : Nat) (hL : s.heap.get? L = some { cls := .type "list", data := .seq #[] c })
    (goal : ∀ h' tk its c', (∀ x o, x ≠ L → s.heap.get? x = some o → h'.get? x = some o) → h'.get? L = some { cls := .type "list", dict := none, data := .seq its c', slots := #[] } → ItemsOf (fun i z => ∃ y, z = .int (a + i * 1) y) its n →
      R (.ok (.ret out)) { s with heap := h', toks := tk }) :
    wpAny (model prog w) A.in1 (Builtin.List.listExtendWith (.ref L) (.ref r) out) (fun fin s' => match fin with
      | .done f => R (.ok f) s'
      | .again c' => c'.quiet = true ∧ codeAny (model prog w) A c' R s') (fun e s' => R (.error e) s') s := by
  have ne1 : L ≠ r := by
    rintro rfl
    rw [ir] at hL
    simp at hL
  have ne2 : L ≠ s.heap.objs.size := Nat.ne_of_lt (Heap.lt_size hL)
  have wk := (Walks.longrange (prog := prog) (w := w) (A := A.in1) calm s.heap.objs.size a 1 n).toS
  have loop : ∀ (h : Heap) (c1 tk : Nat), IsLongIter h s.heap.objs.size (a + ((0 : Nat) : Int) * 1) ((n : Int) - ((0 : Nat) : Int)) 1 → (∀ x o, x ≠ L → s.heap.get? x = some o → h.get? x = some o) → h.get? L = some { cls := .type "list", data := .seq #[] c1 } →
      codeAny (model prog w) A (.builtin "list.extend.loop" ⟨[.ref L, .ref s.heap.objs.size, out], []⟩) R { s with heap := h, toks := tk } := fun h c1 tk z kp hl => by
    refine codeAny_extend_loopS wk (by rw [sizeLine_eq]; omega) L (fun m => ne2 (List.mem_singleton.mp m)) out n 0 _ #[] c1 rfl (Nat.zero_le _) z hl (ItemsOf.nil _) ?_
    intro s' its c' mv hl' hi
    rw [Moved.eq_with mv]
    refine goal s'.heap s'.toks its c' (fun x o hx e => mv.heap x o (fun m => ?_) (kp x o hx e)) hl' hi
    cases List.mem_cons.mp m with
    | inl q => exact hx q
    | inr q =>
      have q1 := List.mem_singleton.mp q
      rw [q1] at e
      exact absurd (Heap.lt_size e) (Nat.lt_irrefl _)
  unfold Builtin.List.listExtendWith
  refine wpAny_bind (wpAny_typeOf (T := "range") ⟨_, ir, rfl⟩ ?_)
  have f1 : Builtin.List.listSameRef (.ref L) (.ref r) = false := by
    simp [Builtin.List.listSameRef, ne1]
  have f2 : (Value.type "range" == Value.type "list") = false := by decide
  have f3 : (Value.type "range" == Value.type "tuple") = false := by decide
  simp only [f1, f2, f3, Bool.or_false, Bool.false_eq_true, if_false]
  refine wpAny_bind (wpAny_pyIter_longrange ir big (wpAny_bind (wpAny_holding (wpAny_hint_range (n := n) (Heap.get?_push_of_some _ ir) size few ?_))))
  generalize hg : s.heap.push { cls := .type "longrange_iterator", data := .fields #[rawInt a, rawInt (Builtin.Range.rangeSize a b 1), rawInt 1] } = g
  have gi : IsLongIter g s.heap.objs.size (a + ((0 : Nat) : Int) * 1) ((n : Int) - ((0 : Nat) : Int)) 1 := by
    have x0 : a + ((0 : Nat) : Int) * 1 = a := by simp
    have x1 : (n : Int) - ((0 : Nat) : Int) = Builtin.Range.rangeSize a b 1 := by rw [size]; simp
    rw [x0, x1, ← hg]
    exact Heap.get?_push_size _ rfl
  have gk : ∀ x o, s.heap.get? x = some o → g.get? x = some o := fun x o e => by
    rw [← hg]
    exact Heap.get?_push_of_some _ e
  have gL := gk L _ hL
  refine wpAny_ite_split (fun _ => ?_) fun _ => wpAny_pure ⟨plainId_quiet F.plain_extend_loop _, loop _ c _ gi (fun x o _ e => gk x o e) gL⟩
  refine wpAny_bind (wpAny_rule (wpAny_bind ?_))
  show wpAny _ _ (updateSeq L (·.push .none) >>= fun _ => updateSeq L (·.pop)) _ _ _
  refine wpAny_bind (wpAny_updateSeq gL rfl ?_)
  have m1 := Heap.get?_update_self (Obj.mapSeq (·.push Value.none)) gL rfl
  refine wpAny_updateSeq (hz := by seq_fits) m1 rfl (wpAny_pure ⟨plainId_quiet F.plain_extend_loop _, loop _ _ _ ?_ (fun x o hx e => ?_) (Heap.get?_update_self (Obj.mapSeq (·.pop)) m1 rfl)⟩)
  · exact (Heap.get?_update_other _ _ ne2).trans ((Heap.get?_update_other _ _ ne2).trans gi)
  · exact (Heap.get?_update_other _ _ (Ne.symm hx)).trans ((Heap.get?_update_other _ _ (Ne.symm hx)).trans (gk x o e))
theorem call_list_long {Q : Value → Shared → Prop} {r : Addr} {a b : Int} {t u v : Tok} {n : Nat} (calm : A.handled = none) (ir : IsRange s.heap r a b 1 t u v) (big : Builtin.Range.small a b 1 = false) (size : Builtin.Range.rangeSize a b 1 = n) (few : n ≤ 2 ^ 24)
    (goal : ∀ h' tk its c', (∀ x o, s.heap.get? x = some o → h'.get? x = some o) → h'.get? s.heap.objs.size = some { cls := .type "list", dict := none, data := .seq its c', slots := #[] } → ItemsOf (fun i z => ∃ y, z = .int (a + i * 1) y) its n →
      Q (.ref s.heap.objs.size) { s with heap := h', toks := tk }) : wpAny (model prog w) A (call (.type "list") [.ref r]) Q E s := by
  refine callType_codes (Q₁ := fun obj s1 => obj = .ref s.heap.objs.size ∧ s1 = { s with heap := s.heap.push { cls := .type "list", data := .seq #[] } }) F.called_list (F.typeCall_list_1 _) F.entry_list_init (code_list_new _ ⟨rfl, rfl⟩) ?_
  rintro _ _ ⟨rfl, rfl⟩
  generalize hg : s.heap.push { cls := .type "list", data := .seq #[] } = g
  have gk : ∀ x o, s.heap.get? x = some o → g.get? x = some o := fun x o e => by
    rw [← hg]
    exact Heap.get?_push_of_some _ e
  have gL : g.get? s.heap.objs.size = some { cls := .type "list", data := .seq #[] } := by
    rw [← hg]
    exact Heap.get?_push_size _ rfl
  have lt : ∀ x o, s.heap.get? x = some o → x ≠ s.heap.objs.size := fun x o e => Nat.ne_of_lt (Heap.lt_size e)
  generalize hS : s.heap.objs.size = L at gL goal lt
  have nr : r ≠ L := lt r _ ir
  refine ⟨⟨_, gL, rfl⟩, F.args_list_init_2 _ _, ?_⟩
  show wpAny _ _ (do let old ← Builtin.List.listItems (.ref L); Builtin.List.listUpdate (.ref L) (fun _ => #[]); letGo old.toList.reverse; Builtin.List.listExtendWith (.ref L) (.ref r) .none) _ _ _
  unfold Builtin.List.listItems
  refine wpAny_bind (wpAny_bind (wpAny_seqItems gL rfl (wpAny_pure ?_)))
  show wpAny _ _ (updateSeq L (fun _ => #[]) >>= fun _ => letGo (#[] : Array Value).toList.reverse >>= fun _ => Builtin.List.listExtendWith (.ref L) (.ref r) .none) _ _ _
  refine wpAny_bind (wpAny_updateSeq gL rfl (wpAny_bind (wpAny_letGo ?_)))
  have ot : ∀ x o, x ≠ L → g.get? x = some o → (g.update L (Obj.mapSeq (fun _ => (#[] : Array Value)))).get? x = some o := fun x o hx e => (Heap.get?_update_other _ _ (Ne.symm hx)).trans e
  refine extend_long (A := A.in1) calm (ot r _ nr (gk r _ ir)) big size few L .none _ (Heap.get?_update_self (Obj.mapSeq (fun _ => (#[] : Array Value))) gL rfl) fun h' tk its c' kp hl' hi => ?_
  exact ⟨rfl, goal h' tk its c' (fun x o e => kp x o (lt x o e) (ot x o (lt x o e) (gk x o e))) hl' hi⟩
end
section
variable {X : Cx} {e : Expr} {te : L2.St → Hp → (Int → Int → Hp → Prop) → Prop}
def tLstA (te : L2.St → Hp → (Int → Int → Hp → Prop) → Prop) : TE := fun σ H Q => te σ H fun a b H1 => (b - a).toNat ≤ 1000000 ∧ ∀ q, H1 q = none → Q (.ref q) (upd H1 q (.lst (rgV a b)))
/-- list(range(..)) -/
theorem pe_listA {p pos : Pos} (hc : X.calm = true) (hg : Gl X "list") (hm : X.mg "list" = none) (he : PRg X e te) (na : starEach [e] X.env = (false, eval e X.env) :: starEach [] X.env := by rfl) : PE X (.Call (.Name "list" p) [e] [] pos) (tLstA te) := by
  constructor
  intro pins s σ H Q I h
  refine Call_ (ld_blt I hg hm boot_list (PyProof.Rows.callWith_type1 (args_cons (thn (he pins s σ H _ I h) ?_) na) na))
  rintro _ s1 ⟨r, a, b, t, u, v, H1, rfl, ir, J, few, q⟩
  refine args_nil ?_
  have few2 : (b - a).toNat ≤ 2 ^ 24 := Nat.le_trans few (by decide)
  have fin : ∀ h' tk its c', (∀ x o, s1.heap.get? x = some o → h'.get? x = some o) → h'.get? s1.heap.objs.size = some { cls := .type "list", dict := none, data := .seq its c', slots := #[] } → ItemsOf (fun i z => ∃ y, z = .int (a + i * 1) y) its (b - a).toNat →
      EP X pins σ Q (.ref s1.heap.objs.size) { s1 with heap := h', toks := tk } := fun h' tk its c' kp at_ hi => by
    refine ⟨.ref s1.heap.objs.size, upd H1 s1.heap.objs.size (.lst (rgV a b)), J.laid kp (Nat.le_refl _) ?_, rfl, q _ (J.hok.fresh (Nat.le_refl _))⟩
    refine (show ObjOk X.prog X.w _ _ _ (.lst (rgV a b)) from ⟨?_, its.toList, c', vals_rg hi, ?_⟩)
    · rw [rgV_length, sizeLine_eq]
      omega
    · rw [Array.toArray_toList]
      exact at_
  cases sm : Builtin.Range.small a b 1 with
  | true => exact call_list_range (J.ok.hd hc) ir sm (rangeSize_nat a b) few2 fin
  | false => exact call_list_long (J.ok.hd hc) ir sm (rangeSize_nat a b) few2 fin
end
end Sz
/-! x + y by an own __add__ -/
namespace Sz
open PySem PySem.Spec PyProof.Rows L2
/-- what the two classes must have: C its own def, D none, both stand under object alone -/
structure AddK (K : PySem.W.Frag) (C D f : Addr) : Prop where
  ne : C ≠ D
  c1 : ∃ cd, PySem.W.clsIn K C = some cd ∧ cd.mro = [.ref C, .type "object"]
  c2 : ∃ cd, PySem.W.clsIn K D = some cd ∧ cd.mro = [.ref D, .type "object"]
  at_ : PySem.W.findIn K (.ref C) "__add__" = some (some (.ref f))
  fn : PySem.W.isFn K (.ref f) = true
  n1 : PySem.W.findIn K (.ref D) "__add__" = some none
  n2 : PySem.W.findIn K (.ref D) "__radd__" = some none
def mroB (K : PySem.W.Frag) (C : Addr) : Bool := match PySem.W.clsIn K C with
  | some cd => decide (cd.mro = [.ref C, .type "object"])
  | none => false
def addB (K : PySem.W.Frag) (C D : Str) : Bool := decide (He.ga K C ≠ He.ga K D) && (mroB K (He.ga K C) && (mroB K (He.ga K D) && (He.eqO (PySem.W.findIn K (.ref (He.ga K C)) "__add__") (some (some (.ref (He.ma K (He.ga K C) "__add__")))) &&
  (PySem.W.isFn K (.ref (He.ma K (He.ga K C) "__add__")) && (He.eqO (PySem.W.findIn K (.ref (He.ga K D)) "__add__") (some none) && He.eqO (PySem.W.findIn K (.ref (He.ga K D)) "__radd__") (some none))))))
theorem mroB_ok {K : PySem.W.Frag} {C : Addr} (h : mroB K C = true) : ∃ cd, PySem.W.clsIn K C = some cd ∧ cd.mro = [.ref C, .type "object"] := by
  unfold mroB at h
  cases e : PySem.W.clsIn K C with
  | none =>
    rw [e] at h
    cases h
  | some cd =>
    rw [e] at h
    exact ⟨cd, rfl, of_decide_eq_true h⟩
theorem addB_ok {K : PySem.W.Frag} {C D : Str} (h : addB K C D = true) : AddK K (He.ga K C) (He.ga K D) (He.ma K (He.ga K C) "__add__") := by
  obtain ⟨h1, h⟩ := He.ba h
  obtain ⟨h2, h⟩ := He.ba h
  obtain ⟨h3, h⟩ := He.ba h
  obtain ⟨h4, h⟩ := He.ba h
  obtain ⟨h5, h⟩ := He.ba h
  obtain ⟨h6, h7⟩ := He.ba h
  exact ⟨of_decide_eq_true h1, mroB_ok h2, mroB_ok h3, He.eqO_ok h4, h5, He.eqO_ok h6, He.eqO_ok h7⟩
section
variable {K : PySem.W.Frag} {M : Model} {h : Heap} {C D f : Addr}
theorem fills_own (X : K.In h) (a : AddK K C D f) : PySem.W.Looks M h (fillsNumberSlot (.ref C) "add") true := by
  obtain ⟨cd, e1, e2⟩ := a.c1
  have L1 : PySem.W.Looks M h (mroOf (.ref C)) cd.mro := (PySem.W.looks_clsIn X e1).andThen .now
  have L2 : PySem.W.Looks M h (typeLookup (.ref C) "__add__") (some (.ref f)) := PySem.W.looks_findIn X a.at_
  unfold fillsNumberSlot
  refine PySem.W.Looks.andThen L1 ?_
  rw [e2]
  simp only [List.anyM]
  refine PySem.W.Looks.andThen (a := true) ?_ .now
  refine PySem.W.Looks.andThen (a := true) (PySem.W.Looks.andThen L2 ?_) .now
  exact .now
theorem fills_none (X : K.In h) (a : AddK K C D f) : PySem.W.Looks M h (fillsNumberSlot (.ref D) "add") false := by
  obtain ⟨cd, e1, e2⟩ := a.c2
  have L1 : PySem.W.Looks M h (mroOf (.ref D)) cd.mro := (PySem.W.looks_clsIn X e1).andThen .now
  have L2 : PySem.W.Looks M h (typeLookup (.ref D) "__add__") none := PySem.W.looks_findIn X a.n1
  have L3 : PySem.W.Looks M h (typeLookup (.ref D) "__radd__") none := PySem.W.looks_findIn X a.n2
  have L4 : PySem.W.Looks M h (typeLookup (.type "object") "__add__") none := .of_pure (by rw [typeLookup_type, builtinLookup_eq_fast]; kernel_rfl)
  have L5 : PySem.W.Looks M h (typeLookup (.type "object") "__radd__") none := .of_pure (by rw [typeLookup_type, builtinLookup_eq_fast]; kernel_rfl)
  unfold fillsNumberSlot
  refine PySem.W.Looks.andThen L1 ?_
  rw [e2]
  simp only [List.anyM]
  refine PySem.W.Looks.andThen (a := false) ?_ ?_
  · refine PySem.W.Looks.andThen (a := false) (PySem.W.Looks.andThen L2 .now) ?_
    exact PySem.W.Looks.andThen (a := false) (PySem.W.Looks.andThen L3 .now) .now
  · refine PySem.W.Looks.andThen (a := false) ?_ .now
    exact PySem.W.Looks.andThen L4 (PySem.W.Looks.andThen L5 .now)
end
section
variable {X : Cx} {CX : CXT} {k : Nat} {C D : Str} {ps : List Str} {sp : Sp} {E : XK}
/-- x + y: x an instance of C with its own __add__, y one of D with none -/
theorem op_addO (a : AddK X.K (He.ga X.K C) (He.ga X.K D) (He.ma X.K (He.ga X.K C) "__add__")) (G : PromM X.prog X.w X.K X.mg X.base CX k C "__add__" ps sp) (hr : Room k X.A) (hx : Passes CX X E) :
    OpR X (binaryOp .Add) (fun x y H Q => ∃ p q dx fs dy gs, x = .ref p ∧ y = .ref q ∧ H p = some (.ins (He.ga X.K C) dx fs) ∧ H q = some (.ins (He.ga X.K D) dy gs) ∧ sp [.ref p, .ref q] H Q E) := by
  intro pins s σ H x y v u Q I rx ry h
  obtain ⟨p, q, dx, fs, dy, gs, rfl, rfl, hp, hq, h⟩ := h
  obtain rfl : v = Value.ref p := rx
  obtain rfl : u = Value.ref q := ry
  obtain ⟨m1, O1, _⟩ := ins_get I.hok hp
  obtain ⟨od1, J1, _⟩ := O1.look
  obtain ⟨m2, O2, _⟩ := ins_get I.hok hq
  obtain ⟨od2, J2, _⟩ := O2.look
  obtain ⟨fd, F, b⟩ := G.ex
  have ne : (Value.ref (He.ga X.K C) == Value.ref (He.ga X.K D)) = false := by
    rw [beq_eq_false_iff_ne]
    exact fun z => a.ne (by injection z)
  unfold binaryOp
  refine wpAny_holding ?_
  show wpAny _ _ (binaryOp1 "add" (.ref p) (.ref q) >>= _) _ _ s
  refine wpAny_bind ?_
  unfold binaryOp1
  refine wpAny_bind (J1.type.here (wpAny_bind (J2.type.here (wpAny_bind ((fills_own I.kIn a).here ?_)))))
  rw [ne]
  refine wpAny_bind ((fills_none I.kIn a).here ?_)
  simp only [Bool.and_false, Bool.false_and, Bool.false_eq_true, if_false, if_true]
  refine wpAny_bind (wpAny_pure ?_)
  simp only [Bool.false_eq_true, if_false]
  unfold tryMethod callSpecial? specialOf
  refine wpAny_bind (wpAny_bind (wpAny_bind (wpAny_bind (J1.type.here ((PySem.W.looks_findIn I.kIn a.at_).here ?_)))))
  refine wpAny_holding (wpAny_bind ((PySem.W.bind_fn I.kIn (.ref p) (beq_iff_eq.mp a.fn)).here ?_))
  refine wpAny_bind (thn (run_fn (us := [.ref p, .ref q]) (vs := [.ref p, .ref q]) F hr b .nil hx I (.cons rfl (.cons rfl .nil)) h) fun v s' hv => wpAny_pure ?_)
  have fin : wpAny (model X.prog X.w) X.A (pure (some v) : Sem (Option Value)) (fun r s2 => wpAny (model X.prog X.w) X.A (match r with
      | some v => pure v
      | _ => do
        let ty ← typeOf (Value.ref p)
        let sl ← seqSlot? ty (Str.ofString "__add__")
        match sl with
          | some f => do
            rule "binop.sequence-concat"
            call f [Value.ref p, Value.ref q]
          | _ => binopTypeError "+" (Value.ref p) (Value.ref q)) (EP X pins σ Q) X.xe s2) X.xe s' := wpAny_pure (wpAny_pure hv)
  obtain ⟨x, H', I', r, q'⟩ := hv
  cases x with
  | non => cases (show v = Value.none from r); exact wpAny_pure fin
  | bl c => cases (show v = Value.bool c from r); exact wpAny_pure fin
  | int i => obtain ⟨t, rfl⟩ := (show ∃ t, v = Value.int i t from r); exact wpAny_pure fin
  | str i => obtain ⟨t, rfl⟩ := (show ∃ t, v = Value.str i t from r); exact wpAny_pure fin
  | byt i => obtain ⟨t, rfl⟩ := (show ∃ t, v = Value.bytes i t from r); exact wpAny_pure fin
  | flt i => obtain ⟨t, rfl⟩ := (show ∃ t, v = Value.float i t from r); exact wpAny_pure fin
  | ref a => cases (show v = Value.ref a from r); exact wpAny_pure fin
  | ty n => cases (show v = Value.type n from r); exact wpAny_pure fin
end
end Sz
/-! texts: what is joined, and its repr -/
namespace Sz
open PySem PySem.Spec PyProof.Rows L2
def Signs (x : Str) : Prop := ∀ c ∈ x.cps.toList, c < 16 ^ 8
theorem signs_of (s : String) : Signs (Str.ofString s) := fun c hc => by
  rw [Str.ofString_eq_toList] at hc
  have hc : c ∈ s.toList.map Char.toNat := by simpa using hc
  obtain ⟨d, _, rfl⟩ := List.mem_map.mp hc
  have h := d.valid
  have h2 : d.toNat < 1114112 := by
    rcases h with h | h
    · exact Nat.lt_trans h (by decide)
    · exact h.2
  exact Nat.lt_of_lt_of_le h2 (by decide)
theorem joinL_mem {sep : List Nat} {c : Nat} : ∀ {l : List (List Nat)}, c ∈ TL.joinL sep l → c ∈ sep ∨ ∃ y ∈ l, c ∈ y
  | [], h => by simp [TL.joinL] at h
  | [p], h => .inr ⟨p, by simp, h⟩
  | p :: q :: r, h => by
    rcases List.mem_append.mp (show c ∈ p ++ (sep ++ TL.joinL sep (q :: r)) from h) with h | h
    · exact .inr ⟨p, by simp, h⟩
    · rcases List.mem_append.mp h with h | h
      · exact .inl h
      · rcases joinL_mem h with h | ⟨y, hy, hc⟩
        · exact .inl h
        · exact .inr ⟨y, List.mem_cons_of_mem _ hy, hc⟩
theorem joinL_len {sep : List Nat} : ∀ {l : List (List Nat)}, (TL.joinL sep l).length ≤ (l.map (·.length)).sum + l.length * sep.length
  | [] => by simp [TL.joinL]
  | [p] => by simp [TL.joinL]
  | p :: q :: r => by
    have ih := joinL_len (sep := sep) (l := q :: r)
    show (p ++ (sep ++ TL.joinL sep (q :: r))).length ≤ _
    rw [List.length_append, List.length_append]
    simp only [List.map_cons, List.sum_cons, List.length_cons, Nat.add_mul, Nat.one_mul] at ih ⊢
    omega
theorem join_signs {sep : Str} {ys : List Str} (h : Signs sep) (h2 : ∀ y ∈ ys, Signs y) : Signs (Txt.join sep ys) := fun c hc => by
  rw [TL.join_eq] at hc
  have hc : c ∈ TL.tl (Str.join sep ys) := hc
  rw [TL.tl_join] at hc
  rcases joinL_mem hc with z | ⟨y, hy, z⟩
  · exact h c z
  · obtain ⟨y', hy', rfl⟩ := List.mem_map.mp hy
    exact h2 y' hy' c z
theorem join_len {sep : Str} {ys : List Str} : (Txt.join sep ys).length ≤ (ys.map (·.length)).sum + ys.length * sep.length := by
  have e : ∀ x : Str, x.length = (TL.tl x).length := fun x => by
    show x.cps.size = x.cps.toList.length
    simp
  rw [TL.join_eq, e, TL.tl_join]
  have := joinL_len (sep := TL.tl sep) (l := ys.map TL.tl)
  rw [List.map_map, List.length_map] at this
  have e2 : ys.map ((·.length) ∘ TL.tl) = ys.map (·.length) := by
    apply List.map_congr_left
    intro y _
    exact (e y).symm
  rw [e2] at this
  rw [e sep]
  exact this
theorem repr_fits {x : Str} (h : Signs x) (hl : x.length ≤ 100000) : (reprText x).length ≤ sizeLine := by
  have := PySem.StrLaws.reprText_len x h
  rw [sizeLine_eq]
  omega
/-- repr of a text -/
theorem cr_reprS {X : Cx} : CallR X (.builtin "repr") (fun xs H Q => ∃ y : Str, xs = [.str y] ∧ (reprText y).length ≤ sizeLine ∧ Q (.str (reprText y)) H) := by
  intro pins s σ H xs us Q I r h
  obtain ⟨y, rfl, hz, q⟩ := h
  obtain ⟨u, rfl, ru⟩ := vals1 r
  obtain ⟨t, rfl⟩ := (show ∃ t, u = Value.str y t from ru)
  exact PySem.P.repr_of_str ⟨.str _, H, I.tok _, ⟨_, rfl⟩, q⟩ hz
end Sz
/-! len(x) by an own __len__ -/
namespace Sz
open PySem PySem.Spec PyProof.Rows L2
section
variable {X : Cx} {CX : CXT} {k : Nat} {C : Str} {ps : List Str} {sp : Sp} {E : XK}
theorem cr_lenO (G : PromM X.prog X.w X.K X.mg X.base CX k C "__len__" ps sp) (hr : Room (k + 1) X.A) (hx : Passes CX X E) :
    CallR X (.builtin "len") (fun xs H Q => ∃ p dx fs, xs = [.ref p] ∧ H p = some (.ins (He.ga X.K C) dx fs) ∧ sp [.ref p] H (fun v H' => ∃ n : Int, v = .int n ∧ 0 ≤ n ∧ n < 2 ^ 63 ∧ Q (.int n) H') E) := by
  intro pins s σ H xs us Q I r h
  obtain ⟨p, dx, fs, rfl, hp, h⟩ := h
  obtain ⟨u, rfl, ru⟩ := vals1 r
  obtain rfl : u = Value.ref p := ru
  obtain ⟨m1, O1, _⟩ := ins_get I.hok hp
  obtain ⟨od1, J1, _⟩ := O1.look
  obtain ⟨fd, F, b⟩ := G.ex
  have hl : ([Value.ref p] ++ ([] : List Value)).length = ps.length := by
    have := F.len _ _ _ _ h
    simpa using this
  refine Calls.call_function_entry kind_len plain_len entry_len (args_len1 _) ?_
  unfold Builtin.«len»
  refine wpAny_bind (m := oneArg "len" _) (wpAny_pure ?_)
  refine wpAny_bind (m := callSpecial? (.ref p) (Str.ofString "__len__")) ?_
  unfold callSpecial? specialOf
  refine wpAny_bind (wpAny_bind (J1.type.here ((PySem.W.looks_findIn I.kIn G.me.at_).here ?_)))
  refine wpAny_holding (wpAny_bind ((PySem.W.bind_fn I.kIn (.ref p) (beq_iff_eq.mp G.me.fn)).here (wpAny_bind ?_)))
  have vv : Vals [V.ref p] [Value.ref p] := .cons rfl .nil
  have bb : BindsTo s fd ⟨[Value.ref p], []⟩ (ps.zip [Value.ref p]) := b s [Value.ref p] I.kIn hl
  refine wpAny_call (codeAny_mono (F.run X.A.in1 X.stack s H ⟨[Value.ref p], []⟩ [Value.ref p] [V.ref p] _ E hr.in1 I.env0.in1 bb vv h) fun rr s' hq => ?_)
  cases rr with
  | error e => exact hx pins σ H s e s' I hq
  | ok fl =>
    cases fl with
    | ret v =>
      obtain ⟨v', H', I', rv, n, rfl, n0, n1, q⟩ := I.after hq
      obtain ⟨t, rfl⟩ := (show ∃ t, v = Value.int n t from rv)
      refine wpAny_pure ?_
      refine wpAny_bind (wpAny_holding (wpAny_pure ?_))
      refine wpAny_bind (wpAny_letGo ?_)
      show wpAny _ _ (if n < 0 then _ else _) _ _ _
      rw [if_neg (by omega)]
      show wpAny _ _ (if n ≥ 2 ^ 63 then _ else _) _ _ _
      rw [if_neg (by omega)]
      exact wpAny_bind (wpAny_mkInt (wpAny_pure ⟨_, rfl, .int n, H', I'.tok _, ⟨_, rfl⟩, q⟩))
    | next => exact False.elim hq
    | brk => exact False.elim hq
    | cont => exact False.elim hq
end
end Sz
namespace Sz
/-! ### sizes rise with the length -/
theorem totF_lt {b n m : Int} (hb : 2 ≤ b) (hn : 0 ≤ n) (h : n < m) : totF b n < totF b m := by
  have s := (totF_is hb hn).tot
  have t := (totF_is (b := b) (n := m) hb (by omega)).tot
  by_cases c : totF b n < totF b m
  · exact c
  · have l := fig_lip hb (show totF b m ≤ totF b n by omega) t s
    omega
theorem totF_mono {b n m : Int} (hb : 2 ≤ b) (hn : 0 ≤ n) (h : n ≤ m) : totF b n ≤ totF b m := by
  by_cases c : n = m
  · rw [c]
    exact Int.le_refl _
  · exact Int.le_of_lt (totF_lt hb hn (by omega))
theorem beg_mono {n k m : Int} (hm : 1 ≤ m) (h : n ≤ k) : beg n m ≤ beg k m := Int.ediv_le_ediv (by omega) (by omega)
/-- n = m q + r -/
theorem beg_parts {n m : Int} (hm : 1 ≤ m) : beg n m = n / m + (if 0 < n % m then 1 else 0) := by
  unfold beg
  have e := Int.mul_ediv_add_emod n m
  have r0 := Int.emod_nonneg n (show m ≠ 0 by omega)
  have r1 := Int.emod_lt_of_pos n (show 0 < m by omega)
  split
  · have e2 : n + m - 1 = (n % m - 1) + m * (n / m + 1) := by rw [Int.mul_add, Int.mul_one]; omega
    rw [e2, Int.add_mul_ediv_left _ _ (by omega), Int.ediv_eq_zero_of_lt (by omega) (by omega)]
    omega
  · have e2 : n + m - 1 = (m - 1) + m * (n / m) := by omega
    rw [e2, Int.add_mul_ediv_left _ _ (by omega), Int.ediv_eq_zero_of_lt (by omega) (by omega)]
    omega
theorem pieces_step {b m c n : Int} (hb : 2 ≤ b) (h : (Wr.pieces m c).ok) (hn : 0 ≤ n) : (Wr.pieces m c).gr b n ≤ (Wr.pieces m c).gr b (n + 1) := by
  simp only [Wr.ok] at h
  simp only [Wr.gr]
  have r0 := Int.emod_nonneg n (show m ≠ 0 by omega)
  have r1 := Int.emod_lt_of_pos n (show 0 < m by omega)
  have e := Int.mul_ediv_add_emod n m
  by_cases z : n % m + 1 < m
  · have d : (n + 1) / m = n / m := by
      have e2 : n + 1 = (n % m + 1) + m * (n / m) := by omega
      rw [e2, Int.add_mul_ediv_left _ _ (by omega), Int.ediv_eq_zero_of_lt (by omega) z]
      have e3 : ((n % m + 1) + m * (n / m)) = n + 1 := by omega
      omega
    have r : (n + 1) % m = n % m + 1 := by
      have e3 := Int.mul_ediv_add_emod (n + 1) m
      rw [d] at e3
      omega
    rw [d, r, if_pos (show 0 < n % m + 1 by omega)]
    have f0 := figF_pos (b := b) (n := n % m + 1) hb
    have f1 := figF_mono (b := b) (n := n % m) (m := n % m + 1) hb (by omega)
    split <;> omega
  · have rm : n % m = m - 1 := by omega
    have e2 : n + 1 = 0 + m * (n / m + 1) := by rw [Int.mul_add, Int.mul_one]; omega
    have d : (n + 1) / m = n / m + 1 := by
      rw [e2, Int.add_mul_ediv_left _ _ (by omega), Int.zero_ediv]
      omega
    have r : (n + 1) % m = 0 := by
      have e3 := Int.mul_ediv_add_emod (n + 1) m
      rw [d, Int.mul_add, Int.mul_one] at e3
      omega
    rw [d, r, rm, if_neg (show ¬ (0 : Int) < 0 by omega), Int.add_mul, Int.one_mul]
    have f0 := figF_pos (b := b) (n := m) hb
    have f1 := figF_mono (b := b) (n := m - 1) (m := m) hb (by omega)
    split <;> omega
theorem step_le {f : Int → Int} (h : ∀ n, 0 ≤ n → f n ≤ f (n + 1)) {n : Int} (hn : 0 ≤ n) : ∀ k : Nat, f n ≤ f (n + k)
  | 0 => by simp
  | k + 1 => by
    have ih := step_le h hn k
    have := h (n + k) (by omega)
    have e : n + ((k + 1 : Nat) : Int) = n + k + 1 := by omega
    rw [e]
    omega
theorem gr_mono {b : Int} {a : Wr} (hb : 2 ≤ b) (h : a.ok) {n k : Int} (hn : 0 ≤ n) (hk : n ≤ k) : a.gr b n ≤ a.gr b k := by
  cases a with
  | plus c => simp only [Wr.gr]; omega
  | told c =>
    simp only [Wr.gr]
    have := figF_mono (b := b) hb hk
    omega
  | whole c =>
    simp only [Wr.ok] at h
    exact totF_mono hb (by omega) (by omega)
  | pieces m c =>
    have := step_le (f := (Wr.pieces m c).gr b) (fun n hn => pieces_step hb h hn) hn (k - n).toNat
    have e : n + ((k - n).toNat : Int) = k := by omega
    rw [e] at this
    exact this
  | cut m c =>
    simp only [Wr.ok] at h
    simp only [Wr.gr]
    have := Int.mul_le_mul_of_nonneg_right (beg_mono h.1 hk) (show 0 ≤ c by omega)
    omega
  | coded m c =>
    simp only [Wr.ok] at h
    exact Int.mul_le_mul_of_nonneg_right (beg_mono h.1 hk) (show 0 ≤ c by omega)
  | filled m =>
    simp only [Wr.ok] at h
    exact Int.mul_le_mul_of_nonneg_right (beg_mono h.1 hk) (show 0 ≤ m by omega)
/-- a size is no less than its length -/
theorem gr_ge {b : Int} {a : Wr} (hb : 2 ≤ b) (h : a.ok) {n : Int} (hn : 0 ≤ n) : n ≤ a.gr b n := by
  have bg : ∀ m : Int, 1 ≤ m → n ≤ beg n m * m := fun m hm => by
    have e := Int.mul_ediv_add_emod n m
    have r0 := Int.emod_nonneg n (show m ≠ 0 by omega)
    have r1 := Int.emod_lt_of_pos n (show 0 < m by omega)
    rw [beg_parts hm, Int.add_mul]
    have c := Int.mul_comm m (n / m)
    split
    · rw [Int.one_mul]
      omega
    · rw [Int.zero_mul]
      omega
  cases a with
  | plus c =>
    simp only [Wr.ok] at h
    simp only [Wr.gr]
    omega
  | told c =>
    simp only [Wr.ok] at h
    simp only [Wr.gr]
    have := figF_pos (b := b) (n := n) hb
    omega
  | whole c =>
    simp only [Wr.ok] at h
    simp only [Wr.gr]
    have := isTot_pos (totF_is (b := b) (n := n + c) hb (by omega)).tot
    omega
  | pieces m c =>
    simp only [Wr.ok] at h
    simp only [Wr.gr]
    have e := Int.mul_ediv_add_emod n m
    have r0 := Int.emod_nonneg n (show m ≠ 0 by omega)
    have q0 := Int.ediv_nonneg hn (show 0 ≤ m by omega)
    have f0 := figF_pos (b := b) (n := m) hb
    have f1 := figF_pos (b := b) (n := n % m) hb
    have p := Int.mul_le_mul_of_nonneg_left (show m ≤ m + c + figF b m by omega) q0
    have c := Int.mul_comm m (n / m)
    split <;> omega
  | cut m c =>
    simp only [Wr.ok] at h
    simp only [Wr.gr]
    have := Int.mul_nonneg (beg_le hn h.1).2 (show 0 ≤ c by omega)
    omega
  | coded m c =>
    simp only [Wr.ok] at h
    simp only [Wr.gr]
    have h1 := bg m h.1
    have := Int.mul_le_mul_of_nonneg_left (show m ≤ c by omega) (beg_le hn h.1).2
    omega
  | filled m =>
    simp only [Wr.ok] at h
    exact bg m h.1
end Sz
/-! data that can be shown and compared: how deep, how long the text -/
namespace Sz
open PySem PySem.Spec PyProof.Rows L2
/-- can be shown: at most so deep, at most so long -/
structure Sho (d : PyData) (k m : Nat) : Prop where
  able : d.showable = true
  nod : d.hasDict = false
  deep : d.depth ≤ k
  long : d.shown.length ≤ m
theorem Sho.mono {d : PyData} {k m k' m' : Nat} (h : Sho d k m) (hk : k ≤ k') (hm : m ≤ m') : Sho d k' m' := ⟨h.able, h.nod, Nat.le_trans h.deep hk, Nat.le_trans h.long hm⟩
theorem sho_int {i : Int} (k : Nat) (hk : 0 < k) (hk2 : k ≤ 500) (h : i.natAbs < 10 ^ k) : Sho (.int i) 0 (k + 1) := by
  refine ⟨?_, rfl, Nat.le_refl _, ?_⟩
  · have h2 : i.natAbs < 2 ^ 1800 := Nat.lt_of_lt_of_le h (Nat.le_trans (Nat.pow_le_pow_right (by decide) hk2) (by decide))
    show decide (i.natAbs.log2 < 1920) = true
    exact decide_eq_true (Nat.lt_of_lt_of_le (PySem.Flt.log2_lt_of (by decide) h2) (by decide))
  · have h1 := int_text_length_le10 hk h
    have e : (Str.ofString (toString i)).length = (toString i : String).length := PySem.ofString_length _
    show (Str.ofString (toString i)).length ≤ k + 1
    omega
theorem sho_bool (b : Bool) : Sho (.bool b) 0 5 := by cases b <;> exact ⟨rfl, rfl, Nat.le_refl _, by decide⟩
theorem sho_none : Sho .none 0 4 := ⟨rfl, rfl, Nat.le_refl _, by decide⟩
theorem sho_all {k m : Nat} : ∀ ds : List PyData, (∀ d ∈ ds, Sho d k m) → PyData.showableAll ds = true ∧ PyData.hasDictAll ds = false ∧ PyData.depthAll ds ≤ k ∧ ((PyData.shownAll ds).map (·.length)).sum ≤ m * ds.length ∧ (PyData.shownAll ds).length = ds.length
  | [], _ => ⟨rfl, rfl, Nat.zero_le _, by simp [PyData.shownAll], rfl⟩
  | d :: ds, h => by
    obtain ⟨h1, h2, h3, h4, h5⟩ := sho_all ds fun y hy => h y (List.mem_cons_of_mem _ hy)
    obtain ⟨g1, g2, g3, g4⟩ := h d (List.mem_cons_self ..)
    refine ⟨?_, ?_, ?_, ?_, ?_⟩
    · show (d.showable && PyData.showableAll ds) = true
      rw [g1, h1]
      rfl
    · show (d.hasDict || PyData.hasDictAll ds) = false
      rw [g2, h2]
      rfl
    · show max d.depth (PyData.depthAll ds) ≤ k
      omega
    · show ((d.shown :: PyData.shownAll ds).map (·.length)).sum ≤ m * (ds.length + 1)
      rw [List.map_cons, List.sum_cons, Nat.mul_add, Nat.mul_one]
      omega
    · show (PyData.shownAll ds).length + 1 = ds.length + 1
      rw [h5]
theorem sho_tuple {k m : Nat} {ds : List PyData} (h : ∀ d ∈ ds, Sho d k m) : Sho (.tuple ds) (k + 1) ((m + 2) * ds.length + 4) := by
  obtain ⟨h1, h2, h3, h4, h5⟩ := sho_all ds h
  refine ⟨h1, h2, ?_, ?_⟩
  · show PyData.depthAll ds + 1 ≤ k + 1
    omega
  · show (tupleText (PyData.shownAll ds)).length ≤ _
    have h6 := tupleText_len_le (PyData.shownAll ds)
    rw [h5] at h6
    rw [Nat.add_mul]
    omega
theorem sho_list {k m : Nat} {ds : List PyData} (h : ∀ d ∈ ds, Sho d k m) : Sho (.list ds) (k + 1) ((m + 2) * ds.length + 4) := by
  obtain ⟨h1, h2, h3, h4, h5⟩ := sho_all ds h
  refine ⟨h1, h2, ?_, ?_⟩
  · show PyData.depthAll ds + 1 ≤ k + 1
    omega
  · show (listText (PyData.shownAll ds)).length ≤ _
    have h6 := listText_len_le (PyData.shownAll ds)
    rw [h5] at h6
    rw [Nat.add_mul]
    omega
/-! what can be laid and compared -/
structure Shp (d : PyData) (k : Nat) : Prop where
  lay : d.canLay0 = true
  deep : d.depth ≤ k
theorem Shp.mono {d : PyData} {k k' : Nat} (h : Shp d k) (hk : k ≤ k') : Shp d k' := ⟨h.lay, Nat.le_trans h.deep hk⟩
theorem Shp.shaped {d : PyData} {k : Nat} (h : Shp d k) (hk : k ≤ 30 := by decide) : SeqAt.shaped d = true := by
  have h2 := h.deep
  simp [SeqAt.shaped, h.lay]
  omega
theorem shp_int (i : Int) : Shp (.int i) 0 := ⟨rfl, Nat.le_refl _⟩
theorem shp_str {s : Str} (h : PyData.strOk s = true) : Shp (.str s) 0 := ⟨h, Nat.le_refl _⟩
theorem shp_bool (b : Bool) : Shp (.bool b) 0 := ⟨rfl, Nat.le_refl _⟩
theorem shp_none : Shp .none 0 := ⟨rfl, Nat.le_refl _⟩
theorem shp_all {k : Nat} : ∀ ds : List PyData, (∀ d ∈ ds, Shp d k) → PyData.canLayAll0 ds = true ∧ PyData.depthAll ds ≤ k
  | [], _ => ⟨rfl, Nat.zero_le _⟩
  | d :: ds, h => by
    obtain ⟨h1, h2⟩ := shp_all ds fun y hy => h y (List.mem_cons_of_mem _ hy)
    obtain ⟨g1, g2⟩ := h d (List.mem_cons_self ..)
    refine ⟨?_, ?_⟩
    · show (d.canLay0 && PyData.canLayAll0 ds) = true
      rw [g1, h1]
      rfl
    · show max d.depth (PyData.depthAll ds) ≤ k
      omega
theorem shp_tuple {k : Nat} {ds : List PyData} (h : ∀ d ∈ ds, Shp d k) : Shp (.tuple ds) (k + 1) := by
  obtain ⟨h1, h2⟩ := shp_all ds h
  refine ⟨h1, ?_⟩
  show PyData.depthAll ds + 1 ≤ k + 1
  omega
theorem shp_list {k : Nat} {ds : List PyData} (h : ∀ d ∈ ds, Shp d k) : Shp (.list ds) (k + 1) := by
  obtain ⟨h1, h2⟩ := shp_all ds h
  refine ⟨h1, ?_⟩
  show PyData.depthAll ds + 1 ≤ k + 1
  omega
theorem shp_ints_t (xs : List Int) : Shp (.tuple (xs.map PyData.int)) 1 := shp_tuple (k := 0) fun d hd => by
  obtain ⟨i, _, rfl⟩ := List.mem_map.mp hd
  exact shp_int i
theorem shp_ints_l (xs : List Int) : Shp (.list (xs.map PyData.int)) 1 := shp_list (k := 0) fun d hd => by
  obtain ⟨i, _, rfl⟩ := List.mem_map.mp hd
  exact shp_int i
end Sz
/-! set comprehensions of ints (the walk is that of HandS.SetBool, turned to ints), sorted(set) of any number -/
namespace Sz
open PySem PySem.Spec PyProof.Rows L2 PpSet
section
variable {X : Cx}
theorem addI_ok {pins : List (Addr × Obj)} {σ : L2.St} {H : Hp} {s : Shared} {E : Value → Shared → Prop} {D : Addr} {S : Int → Bool} {n : Nat} {y : Int} {tk : Tok} {Q : Value → Shared → Prop} (I : Inv X pins σ H s) (hD : H D = some (SetO X.w D S n)) (room : n + 1 < scanBound)
    (h : ∀ s', Inv X pins σ (upd H D (SetO X.w D (fun j => S j || decide (j = y)) (if S y = true then n else n + 1))) s' → Q .none s') : wpAny (model X.prog X.w) X.A (call (.builtin "set.add") [.ref D, .int y tk]) Q E s := by
  have R := setO_get I hD
  refine setR_add R room fun h' sb new => ?_
  have he : ∃ u, h'.get? D = some u := by
    have ⟨o, _, _, _, ho, _⟩ := new
    exact ⟨o, ho⟩
  exact h _ (I.write (e := D) (t' := s.toks + 1) (by rw [hD]; trivial) (.inl rfl) (fun b u hb hu => (sb.2 b hb).trans hu) he (setO_new new))
def tScI (w : World) (wi : TI) (g : TG) (tt : TT) (te : TE) (vs : List Nat) : TE := fun σ H Q => wi σ H fun J H1 => ∀ D, H1 D = none → ∃ W : Nat → Nat → Hp → Prop, (∃ m, W 0 m (upd H1 D (SetO w D (fun _ => false) 0))) ∧ ∀ i m H, W i m H →
  (J.stop i H ∧ Q (.ref D) H) ∨ (J.go i H ∧ ∃ Nx : Hp → Prop, (∀ H', Nx H' → ∃ m', m' < m ∧ W (i + 1) m' H') ∧ ∀ x H', J.yld i H x H' → g x (wipe σ vs) H' fun σ2 H2 => wipe σ2 vs = wipe σ vs ∧ tt σ2 H2 fun b H3 =>
    if b = true then te σ2 H3 fun y H4 => ∃ (c : Int) (S : Int → Bool) (n : Nat), y = .int c ∧ H4 D = some (SetO w D S n) ∧ n + 1 < scanBound ∧ Nx (upd H4 D (SetO w D (fun j => S j || decide (j = c)) (if S c = true then n else n + 1))) else Nx H3)
theorem sc_coreI {pins : List (Addr × Obj)} {s : Shared} {σ : L2.St} {H : Hp} {Q : VK} {elt tg iter : Expr} {ifs : List Expr} {scope : Scope} {own : List (PySem.Str × Nat)} {pos pos' : Pos} {wi : TI} {g : TG} {tt : TT} {te : TE} {use : Option (Value → Sem Unit)} {Qf : Value → Shared → Prop}
    (hc : X.calm = true) (hN : X.N.Nodup) (I : Inv X pins σ H s) (hi : PI X tg iter wi) (ok : BlkOk X.N X.env.scope scope own)
    (hg : ∀ (s : Shared) (H : Hp) (C : Addr) (cl : List (PySem.Str × Addr)) (fp : List Addr), PG (X.blk s H scope (compEnvC scope cl C X.env) fp) tg g) (ht : ∀ (s : Shared) (H : Hp) (C : Addr) (cl : List (PySem.Str × Addr)) (fp : List Addr), PTs (X.blk s H scope (compEnvC scope cl C X.env) fp) ifs tt)
    (he : ∀ (s : Shared) (H : Hp) (C : Addr) (cl : List (PySem.Str × Addr)) (fp : List Addr), PE (X.blk s H scope (compEnvC scope cl C X.env) fp) elt te) (hs : ∀ x, foldedSetIterable iter X.env x = pure x)
    (h : tScI X.w wi g tt te (own.map (·.2)) σ H Q)
    (hRR : ∀ D C s' m H', Inv X pins σ H' s' → Q (.ref D) H' → s'.heap.Ns C m → FpOk X pins H' C → compPost (model X.prog X.w) X.A X.xe use Qf (.ref D) C (.ok .next) s') :
    wpAny (model X.prog X.w) X.A (comprehension (.SetComp elt [⟨tg, iter, ifs, 0⟩] scope pos) scope X.env pos' (newSet (.type "set")) false (eval iter X.env) use) Qf X.xe s := by
  have hfree : ∀ y ∈ scope.names, y.2 = .free → ∃ c, X.env.cells.lookup y.1 = some c := fun y hy e => by
    rcases ok.free y hy e with k | k
    · exact I.ok.has _ (.inl k)
    · exact I.ok.has _ (.inr k)
  refine wpAny_comprehension_free (use := use) rfl hs (closure_ok hfree) ok.kind (fun y hy e => by rw [ok.uniq y hy, e])
    (thn (hi.run pins s σ H _ I h) fun xv s1 hx => thn hx fun itv s2 h2 => ?_)
  obtain ⟨it, fp, tn, J, H2, e, I2, T, st2, f2, q⟩ := h2
  subst e
  refine newSet_ok (newEnv_comp ?_)
  generalize hD : s2.heap.objs.size = D
  have hDn : H2 D = none := I2.hok.fresh (Nat.le_of_eq hD)
  obtain ⟨W, ⟨m0, w0⟩, turn⟩ := q D hDn
  -- the new list
  generalize hs3 : ({ s2 with heap := s2.heap.push { cls := .type "set", dict := none, data := .set #[] 0 (.fresh 0 0 (!X.w.params.followText "set-order")) } } : Shared) = s3
  have I3 : Inv X pins σ (upd H2 D (SetO X.w D (fun _ => false) 0)) s3 := by
    rw [← hs3]
    refine I2.laid (t' := s2.toks) (fun b o e => Heap.get?_push_of_some _ e) (Nat.le_of_eq hD) ?_
    rw [← hD]
    exact setO_new (setR_fresh X.w)
  have h3 : s3.heap = s2.heap.push { cls := .type "set", dict := none, data := .set #[] 0 (.fresh 0 0 (!X.w.params.followText "set-order")) } := by rw [← hs3]
  have sz : ∀ b ∈ fp, b < s2.heap.objs.size := fun b hb => by
    obtain ⟨o, e, _⟩ := T.obj _ _ st2 b hb
    exact Heap.lt_size e
  have f3 : ∀ b ∈ fp, FpOk X pins (upd H2 D (SetO X.w D (fun _ => false) 0)) b ∧ b < s3.heap.objs.size := fun b hb => by
    have hlt := sz b hb
    refine ⟨⟨?_, (f2 b hb).2⟩, by rw [h3, Heap.size_push]; exact Nat.lt_succ_of_lt hlt⟩
    rw [upd_ne (by rw [← hD]; exact Nat.ne_of_lt hlt)]
    exact (f2 b hb).1
  have st3 : tn 0 s3.heap := T.keep _ _ _ st2 fun b _ o e => by rw [h3]; exact Heap.get?_push_of_some _ e
  have I4 := block_start I3 ok hN f3
  have pg := hg s3 (upd H2 D (SetO X.w D (fun _ => false) 0)) s3.heap.objs.size (cellsFrom (s3.heap.objs.size + 1) scope.names (cloFrom X.env.cells scope.names [])) fp
  have pt := ht s3 (upd H2 D (SetO X.w D (fun _ => false) 0)) s3.heap.objs.size (cellsFrom (s3.heap.objs.size + 1) scope.names (cloFrom X.env.cells scope.names [])) fp
  have pe := he s3 (upd H2 D (SetO X.w D (fun _ => false) 0)) s3.heap.objs.size (cellsFrom (s3.heap.objs.size + 1) scope.names (cloFrom X.env.cells scope.names [])) fp
  show codeAny _ _ (.compStart (.SetComp elt [⟨tg, iter, ifs, 0⟩] scope pos) 0 (.ref it) (.ref D) (compEnvC scope (cellsFrom (s3.heap.objs.size + 1) scope.names (cloFrom X.env.cells scope.names [])) s3.heap.objs.size X.env)) (compPost (model X.prog X.w) X.A X.xe use Qf (.ref D) s3.heap.objs.size) { s3 with heap := pushCells (s3.heap.push { cls := .type "dict", data := .dict #[] }) scope.names }
  have nfp : ∀ b ∈ fp, (upd H2 D (SetO X.w D (fun _ => false) 0)) b = none := fun b hb => (f3 b hb).1.1
  generalize hce : compEnvC scope (cellsFrom (s3.heap.objs.size + 1) scope.names (cloFrom X.env.cells scope.names [])) s3.heap.objs.size X.env = ce at I4 pg pt pe ⊢
  have cL : ce.locals = s3.heap.objs.size := by subst hce; rfl
  generalize hH3 : upd H2 D (SetO X.w D (fun _ => false) 0) = H3 at I3 I4 pg pt pe w0 nfp f3
  generalize hs4 : ({ s3 with heap := pushCells (s3.heap.push { cls := .type "dict", data := .dict #[] }) scope.names } : Shared) = s4 at I4 ⊢
  have st4 : tn 0 s4.heap := T.keep _ _ _ st3 fun b _ o e => by rw [← hs4]; exact pushCells_keeps _ _ _ _ (Heap.get?_push_of_some _ e)
  have stat : ∀ {σ' : L2.St} {H' : Hp} {s' : Shared}, Inv (X.blk s3 H3 scope ce fp) [] σ' H' s' → (∀ b ∈ fp, H' b = none) → ∀ b ∈ fp, FpOk (X.blk s3 H3 scope ce fp) [] H' b := fun {σ' H' s'} I' hn b hb =>
    ⟨hn b hb, (I'.ok.exf b hb).1, I'.ok.exfs b hb, .inl hb, fun x c e => (I'.ok.exf b hb).2 x c e, fun p hp => absurd (show p ∈ ([] : List (Addr × Obj)) ++ [] from hp) (by simp)⟩
  have loop : codeAny (model X.prog X.w) X.A (.compLoop (.SetComp elt [⟨tg, iter, ifs, 0⟩] scope pos) 0 (.ref it) (.ref D) ce) (compPost (model X.prog X.w) X.A X.xe use Qf (.ref D) s3.heap.objs.size) s4 := by
    refine compLoopS_any (fun n s' => ∃ i H', Inv (X.blk s3 H3 scope ce fp) [] (wipe σ (own.map (·.2))) H' s' ∧ tn i s'.heap ∧ (∀ b ∈ fp, H' b = none) ∧ W i n H') ?_ m0 ⟨0, H3, I4, st4, nfp, w0⟩
    rintro n s5 ⟨i, H5, I5, st5, n5, w5⟩
    rcases turn i n H5 w5 with ⟨stop, qq⟩ | ⟨go, Nx, hNx, step⟩
    · have td := T.done (X.blk s3 H3 scope ce fp) rfl rfl rfl hc i [] s5 _ H5 (fun _ _ => False) I5 (stat I5 n5) st5 stop
      refine thnF td fun r s6 ⟨hr, I6⟩ => ?_
      subst hr
      -- back in the def's context
      have I7 : Inv X pins σ H5 s6 := I3.call' (ch := fp) I6.os I6.base I6.hok I6.bare fun b hb => ⟨(f3 b hb).1.2.2.2.1, (f3 b hb).1.2.1, (f3 b hb).1.2.2.2.2.1, (f3 b hb).1.2.2.2.2.2⟩
      have nC : H5 s3.heap.objs.size = none := by
        have z : H5 ce.locals = none := I6.free
        rw [cL] at z
        exact z
      obtain ⟨m, hn, _⟩ := I6.loc
      have hn : s6.heap.Ns ce.locals m := hn
      rw [cL] at hn
      exact hRR D s3.heap.objs.size s6 m H5 I7 qq hn (I3.fpOk (Nat.le_refl _) nC)
    · have ti := T.item (X.blk s3 H3 scope ce fp) rfl rfl rfl hc i [] s5 _ H5 (fun _ _ => False) I5 (stat I5 n5) st5 go
      refine thnF ti fun r s6 ⟨u, hr, h6⟩ => ?_
      subst hr
      refine thnF h6 fun _ s7 ⟨x, H7, I7, r7, y7, st7, n7⟩ => ?_
      have I7' := I7.pinned (stat I7 n7) (T.obj _ _ st7)
      refine thnF (pg.run _ s7 _ H7 x u _ I7' r7 (step x H7 y7)) fun _ s8 ⟨σ8, H8, I8, hw8, q8⟩ => ?_
      refine thnF (pt.run _ s8 σ8 H8 _ I8 q8) fun b s9 ⟨H9, I9, q9⟩ => ?_
      -- the turn's end
      have fin : ∀ {s' : Shared} {H' : Hp}, Inv (X.blk s3 H3 scope ce fp) ([] ++ pinsAt fp s7.heap) σ8 H' s' → Nx H' → ∃ m, m < n ∧ ∃ i H', Inv (X.blk s3 H3 scope ce fp) [] (wipe σ (own.map (·.2))) H' s' ∧ tn i s'.heap ∧ (∀ b ∈ fp, H' b = none) ∧ W i m H' := fun {s' H'} I' nx => by
        obtain ⟨m', hm, w'⟩ := hNx H' nx
        have pin' : ∀ b ∈ fp, ∀ o, s7.heap.get? b = some o → s'.heap.get? b = some o ∧ H' b = none := fun b hb o e =>
          let z := I'.pin (b, o) (List.mem_append_right _ (List.mem_append_right _ (mem_pinsAt hb e)))
          ⟨z.1, z.2.1⟩
        have hl : (wipe σ (own.map (·.2))).length = σ8.length := by rw [← hw8, wipe_length]
        refine ⟨m', hm, i + 1, H', (I'.unpinned (pins := [])).weak hl (fun j v e => ?_), T.keep _ _ _ st7 fun b hb o e => (pin' b hb o e).1, fun b hb => ?_, w'⟩
        · rw [← hw8] at e
          exact (wipe_some e).1
        · obtain ⟨o, e, _⟩ := T.obj _ _ st7 b hb
          exact (pin' b hb o e).2
      cases b with
      | false =>
        simp only [Bool.false_eq_true, if_false] at q9 ⊢
        exact fin I9 q9
      | true =>
        simp only [if_true] at q9 ⊢
        refine thnF (pe.run _ s9 σ8 H9 _ I9 q9) fun z s10 ⟨yv, H10, I10, r10, cb, S0, n0, ey, hD10, hz10, nx⟩ => ?_
        subst ey
        obtain ⟨tk, rfl⟩ := r10
        exact addI_ok (X := X.blk s3 H3 scope ce fp) I10 hD10 hz10 fun s11 I11 => fin I11 nx
  exact codeAny_compStart_set loop (T.self X.A 0 _ _ _ st4 loop)
/-- as a value -/
theorem pe_scI {elt tg iter : Expr} {ifs : List Expr} {scope : Scope} {own : List (PySem.Str × Nat)} {pos : Pos} {wi : TI} {g : TG} {tt : TT} {te : TE} (hc : X.calm = true) (hN : X.N.Nodup) (hi : PI X tg iter wi) (ok : BlkOk X.N X.env.scope scope own)
    (hg : ∀ (s : Shared) (H : Hp) (C : Addr) (cl : List (PySem.Str × Addr)) (fp : List Addr), PG (X.blk s H scope (compEnvC scope cl C X.env) fp) tg g) (ht : ∀ (s : Shared) (H : Hp) (C : Addr) (cl : List (PySem.Str × Addr)) (fp : List Addr), PTs (X.blk s H scope (compEnvC scope cl C X.env) fp) ifs tt)
    (he : ∀ (s : Shared) (H : Hp) (C : Addr) (cl : List (PySem.Str × Addr)) (fp : List Addr), PE (X.blk s H scope (compEnvC scope cl C X.env) fp) elt te) (hs : ∀ x, foldedSetIterable iter X.env x = pure x := by intro _; rfl) :
    PE X (.SetComp elt [⟨tg, iter, ifs, 0⟩] scope pos) (tScI X.w wi g tt te (own.map (·.2))) := by
  refine ⟨fun pins s σ H Q I h => ?_⟩
  rw [eval_SetComp]
  refine sc_coreI hc hN I hi ok hg ht he hs h fun D C s' m H' I' q hn f => ⟨m, hn, fun h'' sb => ?_⟩
  obtain ⟨f0, f1, f2, f3, f4, f5⟩ := f
  exact ⟨.ref D, H', I'.turned (t' := s'.toks) (fun b o hb e => (sb.2 b hb).trans e) f0 f1 f3 f4 f5, rfl, q⟩
/-- over a list that the block leaves as it is -/
theorem sc_listI {w : World} {K : PySem.W.Frag} {a : Addr} {xs : List V} {g : TG} {tt : TT} {te : TE} {vs : List Nat} {σ : L2.St} {H1 : Hp} {D : Addr} {Qd : Hp → Prop} (Pv : Nat → Hp → Prop) (h0 : Pv 0 (upd H1 D (SetO w D (fun _ => false) 0))) (hl : ∀ i H, i ≤ xs.length → Pv i H → SqL K H a xs)
    (hs : ∀ i x H, xs[i]? = some x → Pv i H → g x (wipe σ vs) H fun σ2 H2 => wipe σ2 vs = wipe σ vs ∧ tt σ2 H2 fun b H3 =>
      if b = true then te σ2 H3 fun y H4 => ∃ (c : Int) (S : Int → Bool) (n : Nat), y = .int c ∧ H4 D = some (SetO w D S n) ∧ n + 1 < scanBound ∧ Pv (i + 1) (upd H4 D (SetO w D (fun j => S j || decide (j = c)) (if S c = true then n else n + 1))) else Pv (i + 1) H3) (hd : ∀ H, Pv xs.length H → Qd H) :
    ∃ W : Nat → Nat → Hp → Prop, (∃ m, W 0 m (upd H1 D (SetO w D (fun _ => false) 0))) ∧ ∀ i m H, W i m H →
      ((Itl K a).stop i H ∧ Qd H) ∨ ((Itl K a).go i H ∧ ∃ Nx : Hp → Prop, (∀ H', Nx H' → ∃ m', m' < m ∧ W (i + 1) m' H') ∧ ∀ x H', (Itl K a).yld i H x H' → g x (wipe σ vs) H' fun σ2 H2 => wipe σ2 vs = wipe σ vs ∧ tt σ2 H2 fun b H3 =>
        if b = true then te σ2 H3 fun y H4 => ∃ (c : Int) (S : Int → Bool) (n : Nat), y = .int c ∧ H4 D = some (SetO w D S n) ∧ n + 1 < scanBound ∧ Nx (upd H4 D (SetO w D (fun j => S j || decide (j = c)) (if S c = true then n else n + 1))) else Nx H3) := by
  refine ⟨fun i m H => m = xs.length - i ∧ i ≤ xs.length ∧ Pv i H, ⟨xs.length, by simp, Nat.zero_le _, h0⟩, ?_⟩
  rintro i m H ⟨rfl, hi, p⟩
  have q := hl i H hi p
  by_cases hlt : i < xs.length
  · refine .inr ⟨⟨xs, xs[i], q, by simp [hlt]⟩, Pv (i + 1), fun H' p' => ⟨xs.length - (i + 1), by omega, rfl, hlt, p'⟩, fun x H' y => ?_⟩
    obtain ⟨e, y⟩ := y
    subst e
    exact hs i x _ (y xs q) p
  · have e : i = xs.length := by omega
    subst e
    exact .inl ⟨⟨xs, q, Nat.le_refl _⟩, hd H p⟩
/-- over a tuple that the block leaves as it is -/
theorem sc_tupI {w : World} {K : PySem.W.Frag} {a : Addr} {xs : List V} {g : TG} {tt : TT} {te : TE} {vs : List Nat} {σ : L2.St} {H1 : Hp} {D : Addr} {Qd : Hp → Prop} (Pv : Nat → Hp → Prop) (h0 : Pv 0 (upd H1 D (SetO w D (fun _ => false) 0))) (hl : ∀ i H, i ≤ xs.length → Pv i H → SqT K H a xs)
    (hs : ∀ i x H, xs[i]? = some x → Pv i H → g x (wipe σ vs) H fun σ2 H2 => wipe σ2 vs = wipe σ vs ∧ tt σ2 H2 fun b H3 =>
      if b = true then te σ2 H3 fun y H4 => ∃ (c : Int) (S : Int → Bool) (n : Nat), y = .int c ∧ H4 D = some (SetO w D S n) ∧ n + 1 < scanBound ∧ Pv (i + 1) (upd H4 D (SetO w D (fun j => S j || decide (j = c)) (if S c = true then n else n + 1))) else Pv (i + 1) H3) (hd : ∀ H, Pv xs.length H → Qd H) :
    ∃ W : Nat → Nat → Hp → Prop, (∃ m, W 0 m (upd H1 D (SetO w D (fun _ => false) 0))) ∧ ∀ i m H, W i m H →
      ((Itt K a).stop i H ∧ Qd H) ∨ ((Itt K a).go i H ∧ ∃ Nx : Hp → Prop, (∀ H', Nx H' → ∃ m', m' < m ∧ W (i + 1) m' H') ∧ ∀ x H', (Itt K a).yld i H x H' → g x (wipe σ vs) H' fun σ2 H2 => wipe σ2 vs = wipe σ vs ∧ tt σ2 H2 fun b H3 =>
        if b = true then te σ2 H3 fun y H4 => ∃ (c : Int) (S : Int → Bool) (n : Nat), y = .int c ∧ H4 D = some (SetO w D S n) ∧ n + 1 < scanBound ∧ Nx (upd H4 D (SetO w D (fun j => S j || decide (j = c)) (if S c = true then n else n + 1))) else Nx H3) := by
  refine ⟨fun i m H => m = xs.length - i ∧ i ≤ xs.length ∧ Pv i H, ⟨xs.length, by simp, Nat.zero_le _, h0⟩, ?_⟩
  rintro i m H ⟨rfl, hi, p⟩
  have q := hl i H hi p
  by_cases hlt : i < xs.length
  · refine .inr ⟨⟨xs, xs[i], q, by simp [hlt]⟩, Pv (i + 1), fun H' p' => ⟨xs.length - (i + 1), by omega, rfl, hlt, p'⟩, fun x H' y => ?_⟩
    obtain ⟨e, y⟩ := y
    subst e
    exact hs i x _ (y xs q) p
  · have e : i = xs.length := by omega
    subst e
    exact .inl ⟨⟨xs, q, Nat.le_refl _⟩, hd H p⟩
/-- sorted(set) -/
theorem sorted_setA {P : Program} {w : World} {A : Around} {E : Value → Shared → Prop} {s : Shared} {a : Addr} {S : Int → Bool} {n : Nat} {Q : Value → Shared → Prop} (R : SetR w s.heap a S n) (hh : A.handled = none)
    (hQ : ∀ s' p (out : List Value) (c : Nat) (ns : List Int), (∀ b o, s.heap.get? b = some o → s'.heap.get? b = some o) → s'.gens = s.gens → s'.os = s.os → s.heap.objs.size ≤ p →
      s'.heap.get? p = some (seqObj "list" out.toArray c) → IntsAre out ns → ns.Pairwise (· < ·) → (∀ k, k ∈ ns ↔ S k = true) → ns.length = n → Q (.ref p) s') :
    wpAny (model P w) A (call (.builtin "sorted") [.ref a]) Q E s := by
  obtain ⟨o, es, ep, t, ho, hex, hd, g, nd, hm, hb, hf, hn, hr, hl⟩ := R
  have hb2 : n < 4096 := by rw [← hn]; exact hb
  refine Calls.call_function_entry kind_sorted plain_sorted entry_sorted (args_sorted1 _) ?_
  unfold Builtin.«sorted»
  refine wpAny_bind (m := checkCount "sorted" 1 1 _) (wpAny_pure ?_)
  refine wpAny_bind (collect_set (A := A.in1) hh ⟨o, ho, hex.1, hd⟩ hf hb hr hl fun s1 vs k1 hz g1 o1 pm => ?_)
  have hvl : vs.length = n := by rw [pm.length_eq, List.length_map, Array.length_toList]; exact hn
  have hI : IntsAre vs (vs.map Builtin.Re.reRawOf) := ints_of vs fun v hv => by
    obtain ⟨e, he, q⟩ := List.mem_map.mp (pm.mem_iff.mp hv)
    obtain ⟨k, tk, h1, _⟩ := g e he
    exact ⟨k, tk, by rw [← q]; exact h1⟩
  have pk : (vs.map Builtin.Re.reRawOf).Perm (es.toList.map keyOf) := by
    have q := pm.map Builtin.Re.reRawOf
    rw [List.map_map] at q
    exact q
  have hvz : vs.length ≤ sizeLine := by rw [hvl, sizeLine_eq]; omega
  refine wpAny_bind (wpAny_newList ?_ hvz)
  have hoL : (s1.heap.push (seqObj "list" vs.toArray 0)).get? s1.heap.objs.size = some (seqObj "list" vs.toArray 0) := Heap.get?_push_size _ rfl
  refine wpAny_bind (wpAny_holding (wpAny_call_entry slot_list_sort ⟨_, hoL, rfl⟩ entry_list_sort (SrtO.list_sort_ord SrtO.swo_int hoL hvz (fun h2 => SrtO.ints_sortable hI h2) fun out h1 h2 => ⟨_, rfl, ?_⟩) (args_list_sort _)))
  obtain ⟨a1, a2, a3⟩ := SrtO.ints_out hI h1 h2
  obtain ⟨c, hc⟩ := sortedHeap_at (vs := vs) (out := out.toArray) hoL
  have pn : (out.map SrtO.iv).Perm (es.toList.map keyOf) := a2.trans pk
  refine wpAny_pure ⟨_, rfl, hQ _ s1.heap.objs.size out c _ (fun b u e => ?_) g1 o1 hz hc a1 (lt_of_le_nodup _ a3 (pn.nodup_iff.mpr nd)) (fun k => by rw [pn.mem_iff, ← hm k]) ?_⟩
  · have q := k1 b u e
    have hlt := Heap.lt_size q
    show (sortedHeap (s1.heap.push (seqObj "list" vs.toArray 0)) s1.heap.objs.size vs out.toArray).get? b = some u
    rw [sortedHeap_old (Nat.ne_of_lt hlt) (by rw [size_push']; exact Nat.lt_succ_of_lt hlt)]
    exact Heap.get?_push_of_some _ q
  · rw [pn.length_eq, List.length_map, Array.length_toList]; exact hn
def rSortedSetA (w : World) : List V → Hp → VK → Prop := fun vs H Q => ∃ (a : Addr) (S : Int → Bool) (n : Nat), vs = [V.ref a] ∧ H a = some (SetO w a S n) ∧ n < 4096 ∧
  ∀ (ns : List Int) (p : Addr), ns.Pairwise (· < ·) → (∀ k : Int, k ∈ ns ↔ S k = true) → ns.length = n → H p = none → Q (.ref p) (upd H p (.lst (ns.map V.int)))
theorem cr_sortedSetA (hc : X.calm = true) : CallR X (.builtin "sorted") (rSortedSetA X.w) := by
  intro pins s σ H vs us Q I r h
  obtain ⟨a, S, n, rfl, ha, h4, q⟩ := h
  have R := setO_get I ha
  rw [Vals.ref1 r]
  refine sorted_setA R (I.ok.hd hc) fun s' p out c ns k g o hp hg hi hs hm hl => ?_
  have hlen : (ns.map V.int).length ≤ sizeLine := by rw [List.length_map, hl, sizeLine_eq]; omega
  have hn : H p = none := I.hok.fresh hp
  have J : Inv X pins σ (upd H p (.lst (ns.map V.int))) { s with heap := s'.heap, gens := s'.gens, drawn := s'.drawn, toks := s'.toks } :=
    I.call (ch := []) (Un.laid k hp hn) (I.hok.laid k hp ⟨hlen, out, c, vals_of_ints hi, hg⟩) (by rw [g]; exact I.bare) (fun _ z => nomatch z)
  have e : s' = { s with heap := s'.heap, gens := s'.gens, drawn := s'.drawn, toks := s'.toks } := by
    cases s'
    cases s
    cases o
    rfl
  rw [e]
  exact ⟨.ref p, _, J, rfl, q ns p hs hm hl hn⟩
end
end Sz
/-! a <= b <= c <= .. as a test, of any length -/
namespace Sz
open PySem PySem.Spec PyProof.Rows L2
/-- len within a comprehension -/
def rLenS (K : PySem.W.Frag) : List V → Hp → VK → Prop := fun xs H Q => ∃ p ys, xs = [V.ref p] ∧ (SqL K H p ys ∨ SqT K H p ys) ∧ Q (V.int (ys.length : Nat)) H
abbrev TL := V → L2.St → Hp → (Bool → Hp → Prop) → Prop
section
variable {X : Cx} {a b c : Expr} {cs : List Expr} {op op' : CmpOp} {ops : List CmpOp} {ta tb : TE} {r : R2} {t : TL} {pos : Pos}
/-- the rest of a chain, behind a value -/
def PL (X : Cx) (ops : List CmpOp) (cs : List Expr) (t : TL) : Prop :=
  ∀ (pos : Pos) (pins : List (Addr × Obj)) (s : Shared) (σ : L2.St) (H : Hp) (x : V) (v : Value) (Q : Bool → Hp → Prop), Inv X pins σ H s → RelV x v → t x σ H Q →
    wpAny (model X.prog X.w) X.A (testChain pos v ops (evalEach cs X.env)) (fun k s' => ∃ H', Inv X pins σ H' s' ∧ Q k H') X.xe s
def tlLast (r : R2) (tb : TE) : TL := fun x σ H Q => tb σ H fun y H2 => r x y H2 fun z H3 => ∃ k, z = .bl k ∧ Q k H3
def tlMore (r : R2) (tb : TE) (t : TL) : TL := fun x σ H Q => tb σ H fun y H2 => r x y H2 fun z H3 => ∃ k, z = .bl k ∧ if k = true then t y σ H3 Q else Q false H3
theorem pl_last (ho : OpR X (compareOp op) r) (hb : PE X b tb) : PL X [op] [b] (tlLast r tb) := by
  intro pos pins s σ H x v Q I rx h
  refine test_last (thn (hb.run pins s σ H _ I h) fun u s2 ⟨y, H2, I2, r2, q2⟩ => thn (ho pins s2 σ H2 x y v u _ I2 rx r2 q2) fun d s3 ⟨z, H3, I3, r3, k, e, q3⟩ => ?_)
  subst e
  cases r3
  exact wpAny_truthy_bool ⟨H3, I3, q3⟩
theorem pl_more (ho : OpR X (compareOp op) r) (hb : PE X b tb) (hr : PL X (op' :: ops) (c :: cs) t) : PL X (op :: op' :: ops) (b :: c :: cs) (tlMore r tb t) := by
  intro pos pins s σ H x v Q I rx h
  refine test_link (thn (hb.run pins s σ H _ I h) fun u s2 ⟨y, H2, I2, r2, q2⟩ => thn (ho pins s2 σ H2 x y v u _ I2 rx r2 q2) fun d s3 ⟨z, H3, I3, r3, k, e, q3⟩ => ?_)
  subst e
  cases r3
  refine wpAny_truthy_bool ?_
  cases k with
  | false => exact ite_ff ⟨H3, I3, q3⟩
  | true => exact ite_tt (hr pos pins s3 σ H3 y u Q I3 r2 q3)
def tChs (ta : TE) (t : TL) : TT := fun σ H Q => ta σ H fun x H1 => t x σ H1 Q
theorem pt_chains (ha : PE X a ta) (hr : PL X (op :: op' :: ops) (b :: c :: cs) t) (hm : lastMarks (op :: op' :: ops) (b :: c :: cs) = false := by with_unfolding_all rfl) :
    PT X (.Compare a (op :: op' :: ops) (b :: c :: cs) pos) (tChs ta t) := by
  refine ⟨fun pins s σ H Q I h => ?_⟩
  exact isTrue_chain (thn (ha.run pins s σ H _ I h) fun v s1 ⟨x, H1, I1, r1, q1⟩ => hr pos pins s1 σ H1 x v Q I1 r1 q1) hm
end
end Sz
/-! str(x), f"{x}" by an own __str__; x == y, x != y by an own __eq__ -/
namespace Sz
open PySem PySem.Spec PyProof.Rows L2
/-- what the class must have -/
structure StrK (K : PySem.W.Frag) (C : Addr) : Prop where
  fmt : PySem.W.findIn K (.ref C) "__format__" = some (some (.builtin "object.__format__"))
  mro : PySem.W.mroIn K C (.type "object") = some true
  ne : PySem.W.findIn K (.ref C) "__ne__" = some (some (.builtin "object.__ne__"))
def strB (K : PySem.W.Frag) (C : Addr) : Bool := He.eqO (PySem.W.findIn K (.ref C) "__format__") (some (some (.builtin "object.__format__"))) && (decide (PySem.W.mroIn K C (.type "object") = some true) && He.eqO (PySem.W.findIn K (.ref C) "__ne__") (some (some (.builtin "object.__ne__"))))
theorem strB_ok {K : PySem.W.Frag} {C : Addr} (h : strB K C = true) : StrK K C := by
  obtain ⟨h1, h⟩ := He.ba h
  obtain ⟨h2, h3⟩ := He.ba h
  exact ⟨He.eqO_ok h1, of_decide_eq_true h2, He.eqO_ok h3⟩
section
variable {X : Cx} {CX : CXT} {k n : Nat} {C : Str} {ps : List Str} {sp : Sp} {E : XK}
/-- the own method of an instance is called somewhere below the running body -/
theorem run_own {m : Str} (G : PromM X.prog X.w X.K X.mg X.base CX k C m ps sp) (hx : Passes CX X E) {A : Around} (sb : L2.Sub X k A) {pins : List (Addr × Obj)} {s : Shared} {σ : L2.St} {H : Hp} {vs : List V} {us : List Value} {Q : VK}
    (I : Inv X pins σ H s) (r : Vals vs us) (h : sp vs H Q E) : wpAny (model X.prog X.w) A (call (.ref (He.ma X.K (He.ga X.K C) m)) us) (EP X pins σ Q) X.xe s := by
  obtain ⟨fd, F, b⟩ := G.ex
  have hl := F.len _ _ _ _ h
  have e0 : Env0 X.prog X.w X.K X.mg X.base A X.stack s H := by
    have e := I.env0
    exact ⟨by rw [sb.fr]; exact e.frames, e.mod, e.bs, e.bsz, e.funs, e.frf, e.hok, e.bare⟩
  have hl2 : us.length = ps.length := by rw [← hl]; exact r.length.symm
  refine wpAny_call (codeAny_mono (F.run A X.stack s H ⟨us, []⟩ us vs _ E sb.room e0 (by
    have := b s us I.kIn (by simpa using hl2)
    simpa using this) r h) fun rr s' hq => ?_)
  cases rr with
  | error e => exact hx pins σ H s e s' I hq
  | ok fl =>
    cases fl with
    | ret v =>
      obtain ⟨z, H', I', rz, q⟩ := I.after hq
      exact ⟨z, H', I', rz, q⟩
    | next => exact False.elim hq
    | brk => exact False.elim hq
    | cont => exact False.elim hq
theorem strBack_of {pins : List (Addr × Obj)} {σ : L2.St} {Q : VK} {v : Value} {s' : Shared} (h : EP X pins σ (fun v H => ∃ y : Str, v = .str y ∧ Q (.str y) H) v s') : PySem.W.StrBack (EP X pins σ Q) v s' := by
  obtain ⟨z, H', I', rz, y, rfl, q⟩ := h
  obtain ⟨t, rfl⟩ := rz
  exact ⟨.str y, H', I', ⟨t, rfl⟩, q⟩
/-- f"{x}" by an own __str__ -/
def tFmtO (C : Addr) (sp : Sp) (E : XK) (te : TE) : TE := fun σ H Q => te σ H fun x H1 => ∃ p dx fs, x = .ref p ∧ H1 p = some (.ins C dx fs) ∧ sp [.ref p] H1 (fun v H2 => ∃ y : Str, v = .str y ∧ Q (.str y) H2) E
theorem pe_fmtO {e : Expr} {te : TE} {pos : Pos} (a : StrK X.K (He.ga X.K C)) (G : PromM X.prog X.w X.K X.mg X.base CX k C "__str__" ps sp) (hr : Room (k + 1) X.A) (hx : Passes CX X E) (he : PE X e te) :
    PE X (.FormattedValue e (-1) none pos) (tFmtO (He.ga X.K C) sp E te) := by
  refine ⟨fun pins s σ H Q I h => ?_⟩
  refine wpAny_FormattedValue_plain (thn (he.run pins s σ H _ I h) fun v s1 hv => ?_)
  obtain ⟨x, H1, I1, r1, p, dx, fs, rfl, hp, q⟩ := hv
  obtain rfl : v = Value.ref p := r1
  obtain ⟨m1, O1, _⟩ := ins_get I1.hok hp
  obtain ⟨od1, J1, _⟩ := O1.look
  refine PySem.W.kfo_fieldS hr.in1.units0 I1.kIn J1 a.fmt a.mro G.me.at_ G.me.fn ?_
  exact wpAny_mono (run_own G hx (A := X.A.in1) ⟨hr.in1, rfl⟩ (vs := [.ref p]) (us := [.ref p]) (I1.tok _) (.cons rfl .nil) q) (fun v s' z => strBack_of z) fun _ _ z => z
/-- str(x) by an own __str__ -/
theorem cr_strO (G : PromM X.prog X.w X.K X.mg X.base CX k C "__str__" ps sp) (hr : Room (k + 2) X.A) (hx : Passes CX X E) :
    CallR X (.type "str") (fun xs H Q => ∃ p dx fs, xs = [.ref p] ∧ H p = some (.ins (He.ga X.K C) dx fs) ∧ sp [.ref p] H (fun v H2 => ∃ y : Str, v = .str y ∧ Q (.str y) H2) E) := by
  intro pins s σ H xs us Q I r h
  obtain ⟨p, dx, fs, rfl, hp, h⟩ := h
  obtain ⟨u, rfl, ru⟩ := vals1 r
  obtain rfl : u = Value.ref p := ru
  obtain ⟨m1, O1, _⟩ := ins_get I.hok hp
  obtain ⟨od1, J1, _⟩ := O1.look
  refine callType_codes (T := "str") (Bi := Builtin.«object.__init__») (Q₁ := fun r s₁ => ∃ y u, r = .str y u ∧ EP X pins σ Q r s₁) PySem.F.called_str (PySem.F.typeCall_str_1 _) PySem.F.entry_object_init ?_ ?_
  · refine codeAny_of_tree ?_
    show wpAny _ X.A.in1.in1 (do checkBuiltinCall "str.__new__" ⟨[.type "str", .ref p], []⟩; again (.builtin "str.__new__" ⟨[.type "str", .ref p], []⟩)) _ _ s
    refine wpAny_bind (wpAny_of_eq (PySem.F.newCall_str_1 _) (wpAny_pure ⟨plainId_quiet (by decide +kernel) _, codeAny_builtin PySem.F.entry_str_new ?_⟩))
    rw [Around.under_plainId (by decide +kernel) _]
    rw [str_new_tree]
    refine wpAny_bind (wpAny_pure ?_)
    refine wpAny_bind (wpAny_of_eq isSubtype_str_str ?_)
    have key : wpAny (model X.prog X.w) X.A.in1.in1 (PySem.Builtin.Str.strOf (.ref p)) (fun r s₁ => ∃ y u, r = .str y u ∧ EP X pins σ Q r s₁) X.xe s := by
      unfold PySem.Builtin.Str.strOf
      rw [show PySem.Builtin.Str.isExactStr (.ref p) = false from rfl]
      refine wpAny_bind (m := cRoomFor _ _) (wpAny_cRoomFor hr.in1.in1.units0 ?_)
      refine wpAny_bind (m := callSpecial? (.ref p) (Str.ofString "__str__")) (PySem.W.special_fn I.kIn J1 G.me.at_ (beq_iff_eq.mp G.me.fn) (wpAny_mono (run_own G hx (A := X.A.in1.in1) ⟨hr.in1.in1, rfl⟩ (vs := [.ref p]) (us := [.ref p]) I (.cons rfl .nil) h) (fun v s' z => ?_) fun _ _ y => y))
      obtain ⟨z, H', I', rz, y, rfl, q⟩ := z
      obtain ⟨t, rfl⟩ := rz
      exact wpAny_pure ⟨_, _, rfl, .str y, H', I', ⟨t, rfl⟩, q⟩
    exact wpAny_bind (wpAny_mono key (fun r s₁ hr => wpAny_pure hr) fun _ _ y => y)
  · rintro obj s₁ ⟨y, u, rfl, hq⟩
    exact ⟨typeIs_str _ _ _, PySem.F.args_object_init_2 _ _, object_init_meets PySem.F.called_str.init.lookup PySem.F.called_str.made (by decide) X.prog X.w X.A.in1 _ s₁ ⟨typeIs_str _ _ _, rfl, hq⟩⟩
/-- x == y by an own __eq__ -/
theorem op_eqO (G : PromM X.prog X.w X.K X.mg X.base CX k C "__eq__" ps sp) (hr : Room k X.A) (hx : Passes CX X E) :
    OpR X (compareOp .Eq) (fun x y H Q => ∃ p q dx fs dy gs, x = .ref p ∧ y = .ref q ∧ H p = some (.ins (He.ga X.K C) dx fs) ∧ H q = some (.ins (He.ga X.K C) dy gs) ∧ sp [.ref p, .ref q] H (fun v H2 => ∃ b : Bool, v = .bl b ∧ Q (.bl b) H2) E) := by
  intro pins s σ H x y v u Q I rx ry h
  obtain ⟨p, q, dx, fs, dy, gs, rfl, rfl, hp, hq, h⟩ := h
  obtain rfl : v = Value.ref p := rx
  obtain rfl : u = Value.ref q := ry
  obtain ⟨m1, O1, _⟩ := ins_get I.hok hp
  obtain ⟨od1, J1, _⟩ := O1.look
  obtain ⟨m2, O2, _⟩ := ins_get I.hok hq
  obtain ⟨od2, J2, _⟩ := O2.look
  obtain ⟨m, hF⟩ := I.fr
  show wpAny (model X.prog X.w) X.A (richCompare .Eq (.ref p) (.ref q)) (EP X pins σ Q) X.xe s
  refine PySem.W.cmp_K (op := .Eq) (tb := .ref (He.ga X.K C)) hr.units0 hF I.ok.mod.kin J1 J2.type (by simp [PySem.W.notFirst]) G.me.at_ G.me.fn ?_
  refine wpAny_mono (run_own G hx (A := X.A) ⟨hr, rfl⟩ (vs := [.ref p, .ref q]) (us := [.ref p, .ref q]) I (.cons rfl (.cons rfl .nil)) h) (fun v s' z => ?_) fun _ _ y => y
  obtain ⟨z, H', I', rz, b, rfl, q⟩ := z
  cases rz
  exact ⟨.bl b, H', I', rfl, q⟩
/-- x != y by an own __eq__ -/
theorem op_neO (a : StrK X.K (He.ga X.K C)) (G : PromM X.prog X.w X.K X.mg X.base CX k C "__eq__" ps sp) (hr : Room (k + 1) X.A) (hx : Passes CX X E) :
    OpR X (compareOp .NotEq) (fun x y H Q => ∃ p q dx fs dy gs, x = .ref p ∧ y = .ref q ∧ H p = some (.ins (He.ga X.K C) dx fs) ∧ H q = some (.ins (He.ga X.K C) dy gs) ∧ sp [.ref p, .ref q] H (fun v H2 => ∃ b : Bool, v = .bl b ∧ Q (.bl !b) H2) E) := by
  intro pins s σ H x y v u Q I rx ry h
  obtain ⟨p, q, dx, fs, dy, gs, rfl, rfl, hp, hq, h⟩ := h
  obtain rfl : v = Value.ref p := rx
  obtain rfl : u = Value.ref q := ry
  obtain ⟨m1, O1, _⟩ := ins_get I.hok hp
  obtain ⟨od1, J1, _⟩ := O1.look
  obtain ⟨m2, O2, _⟩ := ins_get I.hok hq
  obtain ⟨od2, J2, _⟩ := O2.look
  show wpAny (model X.prog X.w) X.A (richCompare .NotEq (.ref p) (.ref q)) (EP X pins σ Q) X.xe s
  have one : wpAny (model X.prog X.w) X.A (tryCompare (.ref p) "__ne__" (.ref q)) (fun r s' => ∃ v, r = some v ∧ EP X pins σ Q v s') X.xe s := by
    unfold tryCompare
    refine wpAny_bind ?_
    simp only [callSpecialIfBound?, bindSpecialIfBound?]
    refine wpAny_holding (wpAny_bind (wpAny_bind (wpAny_bind (J1.type.here ((PySem.W.looks_findIn I.kIn a.ne).here ?_)))))
    refine wpAny_bind (wpAny_askSetting (wpAny_ite ?_))
    have run : wpAny (model X.prog X.w) X.A (call (.builtin "object.__ne__") [.ref p, .ref q]) (fun r s' => ∃ b : Bool, r = .bool b ∧ EP X pins σ Q (.bool b) s') X.xe s := by
      refine wpAny_call (codeAny_call_builtin PySem.F.slot_object_ne.plain PySem.F.entry_object_ne (PySem.W.check_slot (i := "object.__ne__") (owner := "object") (n := "__ne__") (by decide +kernel) (by decide +kernel) (J1.type.andThen (PySem.W.looks_mroIn I.kIn a.mro)) (PySem.F.args_object_ne_2 _ _) ?_))
      unfold Builtin.«object.__ne__»
      refine wpAny_bind (m := slotArgs "__ne__" 1 _) (wpAny_pure ?_)
      refine wpAny_bind (m := cRoomFor _ _) (wpAny_cRoomFor hr.in1.units0 ?_)
      refine wpAny_bind (m := callSpecialIfBound? (.ref p) (Str.ofString "__eq__") _) (PySem.W.ifBound_K I.kIn J1 G.me.at_ G.me.fn (wpAny_mono (run_own G hx (A := X.A.in1) ⟨hr.in1, rfl⟩ (vs := [.ref p, .ref q]) (us := [.ref p, .ref q]) I (.cons rfl (.cons rfl .nil)) h) (fun r s' z => ?_) fun _ _ y => y))
      obtain ⟨z, H', I', rz, b, rfl, q⟩ := z
      cases rz
      exact wpAny_bind (wpAny_truthy_bool (wpAny_pure ⟨!b, rfl, .bl !b, H', I', rfl, q⟩))
    have fin : wpAny (model X.prog X.w) X.A (call (.builtin "object.__ne__") ([.ref p] ++ [.ref q]) >>= fun v => pure (some v)) (fun r s2 => ∃ b : Bool, r = some (.bool b) ∧ EP X pins σ Q (.bool b) s2) X.xe s :=
      wpAny_bind (wpAny_mono run (fun v s' h' => wpAny_pure (by obtain ⟨b, rfl, h'⟩ := h'; exact ⟨b, rfl, h'⟩)) fun _ _ h' => h')
    have fin2 := wpAny_mono (Q' := fun r s2 => wpAny (model X.prog X.w) X.A (match r with
      | some .notImplemented => pure none
      | none => pure none
      | some v => pure (some v) : Sem (Option Value)) (fun r s' => ∃ v, r = some v ∧ EP X pins σ Q v s') X.xe s2) fin (fun r s2 z => by
        obtain ⟨b, e, z⟩ := z
        subst e
        exact wpAny_pure ⟨_, rfl, z⟩) fun _ _ z => z
    split
    · exact wpAny_bind (wpAny_of_eq (PySem.F.slot_object_ne.bind _) (wpAny_pure (by exact fin2)))
    · exact wpAny_tryCatch (wpAny_bind (wpAny_of_eq (PySem.F.slot_object_ne.bind _) (wpAny_pure (by exact fin2))))
  unfold richCompare
  simp only [oneThing_ref]
  refine wpAny_holding (wpAny_bind (wpAny_cRoomFor hr.units0 ?_))
  rw [cmpInfo_NotEq]
  dsimp only
  refine wpAny_bind (J1.type.here (wpAny_bind (J2.type.here ?_)))
  rw [show (Value.ref (He.ga X.K C) != Value.ref (He.ga X.K C)) = false from by simp]
  simp only [Bool.false_eq_true, if_false]
  refine wpAny_bind (wpAny_pure ?_)
  simp only [Bool.false_eq_true, if_false]
  refine wpAny_bind (wpAny_mono one (fun r s' z => ?_) fun _ _ e => e)
  obtain ⟨v, rfl, hq⟩ := z
  exact wpAny_pure hq
end
end Sz
/-! repr(x) by an own __repr__ -/
namespace Sz
open PySem PySem.Spec PyProof.Rows L2
section
variable {X : Cx} {CX : CXT} {k n : Nat} {C : Str} {ps : List Str} {sp : Sp} {E : XK}
theorem cr_reprO (G : PromM X.prog X.w X.K X.mg X.base CX k C "__repr__" ps sp) (hr : Room (k + 1) X.A) (hx : Passes CX X E) :
    CallR X (.builtin "repr") (fun xs H Q => ∃ p dx fs, xs = [.ref p] ∧ H p = some (.ins (He.ga X.K C) dx fs) ∧ sp [.ref p] H (fun v H2 => ∃ y : Str, v = .str y ∧ Q (.str y) H2) E) := by
  intro pins s σ H xs us Q I r h
  obtain ⟨p, dx, fs, rfl, hp, h⟩ := h
  obtain ⟨u, rfl, ru⟩ := vals1 r
  obtain rfl : u = Value.ref p := ru
  obtain ⟨m1, O1, _⟩ := ins_get I.hok hp
  obtain ⟨od1, J1, _⟩ := O1.look
  obtain ⟨m, hF⟩ := I.fr
  refine PySem.W.repr_K hr.in1.units0 hF I.ok.mod.kin J1 G.me.at_ G.me.fn ?_
  exact wpAny_mono (run_own G hx (A := X.A.in1) ⟨hr.in1, rfl⟩ (vs := [.ref p]) (us := [.ref p]) I (.cons rfl .nil) h) (fun v s' z => strBack_of z) fun _ _ z => z
end
end Sz
/-! errors: defs that raise, a try with a tuple of classes, a def that looks at the error that is handled -/
namespace Sz
open PySem PySem.Spec PyProof.Rows L2
section
variable {P : Program} {w : World} {K : PySem.W.Frag} {mg : Str → Option Value} {base : Heap}
/-- a def that may raise -/
theorem Prom.ofX {x : Str} {st : Stmt} {ps N : List Str} {sp : Sp} {k : Nat} (D : DefAt K mg x st) (S : FnScope N ps (defScope st)) (len : ∀ vs H Q E, sp vs H Q E → vs.length = ps.length)
    (hb : ∀ (kV doc pm : Value) (an : Option Addr) (cdv ct : Value) (us : List Value), us.length = ps.length → bindArgs (PySem.W.fnOf x x (defArgs st) (defBody st) (defScope st) .none kV doc pm an cdv ct) ⟨us, []⟩ = pure (ps.zip us))
    (hbody : ∀ (f : Addr) (cdv : Value) (A : Around) (outer : List Env) (s : Shared) (H : Hp) (vs : List V) (Q : VK) (E : XK), Room k (A.deeper (envOfC x (defScope st) s.heap.objs.size f cdv)) → sp vs H Q E →
      ∃ t, PSs (cxOf (L2.CX P w) P w K mg base N x (defScope st) f cdv A outer s H E) (defBody st) t ∧ t { nx := fun _ H' => Q .non H', rt := Q } (start N vs) H) :
    Prom P w K mg base (L2.CX P w) (k + 1) x st ps sp := by
  obtain ⟨f, fd, F, hm⟩ := D
  exact ⟨f, fd, F.ok S len (fun cdv A outer s H vs Q E hr hs => hbody f cdv A outer s H vs Q E hr hs), hm, F, F.bindsN hb⟩
end
/-! ### a def that is handed the error, called in the except suite: p, the error's address and object -/
structure FnP (P : Program) (w : World) (K : PySem.W.Frag) (mg : Str → Option Value) (base : Heap) (k : Nat) (f : Addr) (fd : FuncData) (ps : List Str) (sp : Addr × Obj → Sp) : Prop where
  len : ∀ p vs H Q E, sp p vs H Q E → vs.length = ps.length
  run : ∀ (A : Around) (outer : List Env) (s : Shared) (H : Hp) (args : Args) (us : List Value) (vs : List V) (Q : VK) (E : XK) (p : Addr × Obj), L2H.RoomH k A → A.guards = some [] → L2H.PinOk outer H s p → Env0 P w K mg base A outer s H →
    BindsTo s fd args (ps.zip us) → Vals vs us → sp p vs H Q E → codeAny (model P w) A (.call (.ref f) args) (CR CX0 outer P w H s Q E) s
theorem fnP_of {P : Program} {w : World} {K : PySem.W.Frag} {mg : Str → Option Value} {base : Heap} {k : Nat} {f : Addr} {x q : Str} {pr : Arguments} {bd : List Stmt} {sc : Scope} {dvs : List V} {kws : List (Str × V)} {fd : FuncData} {N ps : List Str} {sp : Addr × Obj → Sp}
    (F : FunD K x q pr bd sc dvs kws f fd) (S : FnScope N ps sc) (len : ∀ p vs H Q E, sp p vs H Q E → vs.length = ps.length)
    (hbody : ∀ (cdv : Value) (A : Around) (outer : List Env) (s : Shared) (H : Hp) (vs : List V) (Q : VK) (E : XK) (p : Addr × Obj), L2H.RoomH k (A.deeper (envOfC q sc s.heap.objs.size f cdv)) → (A.deeper (envOfC q sc s.heap.objs.size f cdv)).guards = some [] → sp p vs H Q E →
      ∃ t, PSs (L2H.cxH CX0 P w K mg base N q sc f cdv A outer s H E p).nox bd t ∧ t { nx := fun _ H' => Q .non H', rt := Q } (start N vs) H) : FnP P w K mg base (k + 1) f fd ps sp := by
  obtain ⟨c1, c2, c3, c4, c5, c6, c7, cdv, c9, c10, rfl, look, code, _, _⟩ := F.ex
  refine ⟨len, fun A outer s H args us vs Q E p room gd pin e0 hbind rel want => ?_⟩
  have old : ∀ b o, base.get? b = some o → s.heap.get? b = some o := fun b o e => (e0.bs b o e).1
  have inK : K.In s.heap := e0.mod.kin.keeps old
  have kinds : ∀ y ∈ ps.zip us, sc.names.lookup y.1 = some .local ∨ (sc.names.lookup y.1 = some .cell ∧ ((cellsFrom (s.heap.objs.size + 1) sc.names []).lookup y.1).isSome = true) := by
    rintro ⟨n, v⟩ hy
    have hm : n ∈ ps := (List.of_mem_zip hy).1
    cases S.par n hm with
    | inl z => exact Or.inl z
    | inr z => exact Or.inr ⟨z, PySem.W.cellsFrom_some _ _ _ (.inl z)⟩
  obtain ⟨t, dt, rt⟩ := hbody cdv A outer s H vs Q E p (room.deeper _) gd want
  have dt := dt.nox
  refine codeAny_call_function room.depth (inK _ _ look) rfl S.co S.gen rfl (PySem.W.codeRec_of inK code) ?_
  refine hbind _ _ _ _ (wpAny_newFunctionEnv_cells S.kind kinds ?_)
  rintro _ rfl s1 ic
  refine ⟨(e0.mod.nolimit.keeps old).keeps ic.toInCall.keep, codeAny_func ?_⟩
  refine wpAny_mono (dt.run [] s1 (start N vs) H _ (L2H.inv_startH S pin e0 (len _ _ _ _ _ want) rel ic) rt) ?_ (fun _ _ z => z)
  intro fl s' hs
  cases fl with
  | ret u => exact let ⟨v, _, H', J, rv, qv⟩ := hs; ⟨v, H', J.os, J.bare, J.base, J.hok, rv, qv⟩
  | next => exact let ⟨_, H', J, qv⟩ := hs; ⟨.non, H', J.os, J.bare, J.base, J.hok, rfl, qv⟩
  | brk => exact let ⟨_, _, _, qv⟩ := hs; False.elim qv
  | cont => exact let ⟨_, _, _, qv⟩ := hs; False.elim qv
/-- the def named x keeps the promise sp of the error at p -/
structure PromP (P : Program) (w : World) (K : PySem.W.Frag) (mg : Str → Option Value) (base : Heap) (k : Nat) (x : Str) (st : Stmt) (ps : List Str) (sp : Addr × Obj → Sp) : Prop where
  ex : ∃ f fd, FnP P w K mg base k f fd ps sp ∧ mg x = some (.ref f) ∧ FunD K x x (defArgs st) (defBody st) (defScope st) [] [] f fd ∧ Binds K fd ps []
theorem PromP.of {P : Program} {w : World} {K : PySem.W.Frag} {mg : Str → Option Value} {base : Heap} {x : Str} {st : Stmt} {ps N : List Str} {sp : Addr × Obj → Sp} {k : Nat} (D : DefAt K mg x st) (S : FnScope N ps (defScope st)) (len : ∀ p vs H Q E, sp p vs H Q E → vs.length = ps.length)
    (hb : ∀ (kV doc pm : Value) (an : Option Addr) (cdv ct : Value) (us : List Value), us.length = ps.length → bindArgs (PySem.W.fnOf x x (defArgs st) (defBody st) (defScope st) .none kV doc pm an cdv ct) ⟨us, []⟩ = pure (ps.zip us))
    (hbody : ∀ (f : Addr) (cdv : Value) (A : Around) (outer : List Env) (s : Shared) (H : Hp) (vs : List V) (Q : VK) (E : XK) (p : Addr × Obj), L2H.RoomH k (A.deeper (envOfC x (defScope st) s.heap.objs.size f cdv)) → (A.deeper (envOfC x (defScope st) s.heap.objs.size f cdv)).guards = some [] → sp p vs H Q E →
      ∃ t, PSs (L2H.cxH CX0 P w K mg base N x (defScope st) f cdv A outer s H E p).nox (defBody st) t ∧ t { nx := fun _ H' => Q .non H', rt := Q } (start N vs) H) :
    PromP P w K mg base (k + 1) x st ps sp := by
  obtain ⟨f, fd, F, hm⟩ := D
  exact ⟨f, fd, fnP_of F S len (fun cdv A outer s H vs Q E p hr hg hs => hbody f cdv A outer s H vs Q E p hr hg hs), hm, F, F.bindsN hb⟩
section
variable {X : Cx} {k : Nat} {x : Str} {st : Stmt} {ps : List Str} {sp : Addr × Obj → Sp} {e : Expr} {es : List Expr} {t : TA} {p pos : Pos} {a : Addr} {oe : Obj} {pn : List (Addr × Obj)}
/-- f(..) in the suite that handles the error at a -/
theorem pe_callE (G : PromP X.prog X.w X.K X.mg X.base k x st ps sp) (gd : X.A.guards = some []) (hr : L2H.RoomH k X.A) (hg : Gl X x) (hs : X.stack = X.env :: X.outer) (ha : PA (X.suite a ((a, oe) :: pn)) (e :: es) t)
    (hdb : (x == ("__debug__" : Str)) = false := by decide) (he : starEach (e :: es) X.env = (false, eval e X.env) :: starEach es X.env := by rfl) (hpl : (backTo pos (starEach es X.env)).any (·.1) = false := by rfl) :
    PE (X.suite a ((a, oe) :: pn)) (.Call (.Name x p) (e :: es) [] pos) (tCall (sp (a, oe)) [] E0 t) := by
  obtain ⟨f, fd, F, hm, D, hb⟩ := G.ex
  constructor
  intro pins s σ H Q I h
  refine wpAny_Call_Name_kw (ld_glob I hg hm (PySem.W.callWith_K (h₀ := X.base) I.ok.mod.kin D.kp (thn (ha.run pos pins s σ H _ I h) ?_) he hpl) hdb)
  rintro us s1 ⟨vs, H1, I1, rel, want⟩
  have pin : L2H.PinOk X.stack H1 s1 (a, oe) := by
    obtain ⟨p1, p2, p3, p4, p5⟩ := I1.pin (a, oe) (List.mem_append_left _ (List.mem_cons_self ..))
    refine ⟨p1, p2, fun z => ?_, p5⟩
    rw [hs] at z
    obtain ⟨en, hen, q⟩ := List.mem_filterMap.mp z
    rcases List.mem_cons.mp hen with z | z
    · subst z
      have nf := I1.ok.stk
      rcases nf with nf | ⟨_, nf⟩
      · have nf : X.stack = X.outer := nf
        rw [hs] at nf
        exact absurd (congrArg List.length nf) (by simp)
      · have nf : X.env.frame = some X.env.locals := nf
        rw [nf] at q
        exact p3 (Option.some.inj q).symm
    · exact p4 (List.mem_filterMap.mpr ⟨en, z, q⟩)
  refine ⟨I1.kIn, wpAny_call (codeAny_mono (F.run (X.A.mark (some (.ref a))) X.stack s1 H1 ⟨us, []⟩ (us ++ []) (vs ++ []) Q E0 (a, oe) ⟨hr.dp, hr.un⟩ gd pin I1.env0 (hb s1 us I1.kIn ?_) (rel.append .nil) want) ?_)⟩
  · rw [← (rel.append Paired.nil).length]
    exact F.len _ _ _ _ _ want
  · intro r s' hq
    cases r with
    | error z => exact False.elim hq
    | ok fl =>
      cases fl with
      | ret u => exact I1.after hq
      | next => exact False.elim hq
      | brk => exact False.elim hq
      | cont => exact False.elim hq
end
/-! ### except clauses with names, by a class or by three of them -/
/-- what the test of a clause does: nothing but new objects, and the word whether the error is of one of these classes -/
def TestOk (X : Cx) (t : Expr) (cs : List Value) : Prop := ∀ (a : Addr) (oe : Obj) (pn pins : List (Addr × Obj)) (s : Shared) (σ : L2.St) (H : Hp) (b : Bool) (Q : Bool → Shared → Prop) (E : Value → Shared → Prop),
  Inv (X.suite a ((a, oe) :: pn)) pins σ H s → PySem.W.exmAny X.K oe.cls cs = some b → (∀ h', (∀ c o, s.heap.get? c = some o → h'.get? c = some o) → Q b { s with heap := h' }) →
  wpAny (model X.prog X.w) (X.A.mark (some (.ref a))) (eval t X.env) (fun c s1 => wpAny (model X.prog X.w) (X.A.mark (some (.ref a))) (excMatches (.ref a) c) Q E s1) E s
theorem exmAny_one {K : PySem.W.Frag} {cls c : Value} {b : Bool} (h : PySem.W.exmAny K cls [c] = some b) : PySem.W.exmOne K cls c = some b := by
  obtain ⟨b1, d1, e1, e2, e3⟩ := PySem.W.exmAny_cons h
  have e2 : some false = some d1 := e2
  cases e2
  rw [e1, e3, Bool.or_false]
section
variable {X : Cx}
theorem looks_cls {a : Addr} {oe : Obj} {pn pins : List (Addr × Obj)} {s : Shared} {σ : L2.St} {H : Hp} (I : Inv (X.suite a ((a, oe) :: pn)) pins σ H s) : PySem.W.Looks (model X.prog X.w) s.heap (typeOf (.ref a)) oe.cls := fun A Q E s' k q =>
  wpAny_typeOf_ref (k _ _ (I.pin (a, oe) (List.mem_append_left _ (List.mem_cons_self ..))).1) q
theorem test_name {x : Str} {c : Value} {np : Pos} (hg : Gl X x) (hm : X.mg x = some c) (hd : (x == ("__debug__" : Str)) = false := by decide) : TestOk X (.Name x np) [c] := fun a oe pn pins s σ H b Q E I hx k => by
  refine ld_glob I hg hm ?_ hd
  exact (PySem.W.exm_one (M := model X.prog X.w) I.kIn (looks_cls I) (exmAny_one hx)).here (k s.heap fun _ _ z => z)
theorem test_tup {x y z : Str} {c1 c2 c3 : Value} {p1 p2 p3 tp : Pos} {e1} (g1 : Gl X x) (g2 : Gl X y) (g3 : Gl X z) (m1 : X.mg x = some c1) (m2 : X.mg y = some c2) (m3 : X.mg z = some c3)
    (d1 : (x == ("__debug__" : Str)) = false := by decide) (d2 : (y == ("__debug__" : Str)) = false := by decide) (d3 : (z == ("__debug__" : Str)) = false := by decide) :
    TestOk X (.Tuple [.Name x p1, .Name y p2, .Name z p3] e1 tp) [c1, c2, c3] := fun a oe pn pins s σ H b Q E I hx k => by
  refine wpAny_Tuple_spliced ?_
  show wpAny _ _ (spliced [(false, eval (.Name x p1) X.env), (false, eval (.Name y p2) X.env), (false, eval (.Name z p3) X.env)]) _ _ _
  refine Calls.spliced_cons (ld_glob I g1 m1 (Calls.spliced_cons (ld_glob I g2 m2 (Calls.spliced_cons (ld_glob I g3 m3 (Calls.spliced_nil ⟨(by show 3 ≤ sizeLine; decide), ?_⟩) d3)) d2)) d1)
  have kk : ∀ c o, s.heap.get? c = some o → (s.heap.push { cls := .type "tuple", data := .seq [c1, c2, c3].toArray }).get? c = some o := fun c o e => Heap.get?_push_of_some _ e
  exact (PySem.W.exm_tup3 (M := model X.prog X.w) (I.kIn.keeps kk) ((looks_cls I).keeps kk) (Heap.get?_push_size _ rfl) hx).here (k _ kk)
end
theorem fly_kept {B h h' : Heap} {l : List Env} {e : Addr} {Z : Obj → Prop} (k : ∀ b o, h.get? b = some o → h'.get? b = some o) (x : HandSPX.FlyingZ B l e Z h) : HandSPX.FlyingZ B l e Z h' := by
  obtain ⟨st, no, fr, oe, vs, T, oT, ts, a1, a2, a3, a4, a5, a6, a7, a8⟩ := x
  exact ⟨fun b o e => k b o (st b o e), no, Heap.FunFrames.of_keeps (fun b o e _ => ⟨o, k b o e, rfl⟩) fr, oe, vs, T, oT, ts, k _ _ a1, a2, a3, a4, a5, a6, k _ _ a7, a8⟩
/-- a clause: the classes, the slot of its name, the reading of its suite -/
structure Clause where
  cs : List Value
  i : Nat
  ts : Addr → Obj → Value → Option Addr → TS
/-- behind the suite the name is gone -/
def Ends.gone (D : Ends) (i : Nat) : Ends := { nx := fun σ H => D.nx (σ.set i none) H, rt := D.rt, bk := fun σ H => D.bk (σ.set i none) H, ct := fun σ H => D.ct (σ.set i none) H }
def wCl (K : PySem.W.Frag) (Wout : WX) (D : Ends) : List Clause → WX
  | [] => Wout
  | c :: r => fun cls d σ H => ∃ b, PySem.W.exmAny K cls c.cs = some b ∧ (b = true → ∀ a oe, Zc cls d oe → (∃ vs, oe.data = .fields vs) → H a = none → c.ts a oe cls d (Ends.gone D c.i) (σ.set c.i (some (.ref a))) H) ∧ (b = false → wCl K Wout D r cls d σ H)
inductive ClOk (X : Cx) : List ExceptHandler → List Clause → Prop
  | nil : ClOk X [] []
  | cons {t : Expr} {n : Str} {i : Nat} {b0 : Stmt} {suite : List Stmt} {pos : Pos} {cs : List Value} {ts : Addr → Obj → Value → Option Addr → TS} {hds : List ExceptHandler} {l : List Clause} (ht : TestOk X t cs) (hi : X.N[i]? = some n) (hl : X.env.kindOf n = some .local)
      (hs : ∀ (a : Addr) (oe : Obj) (cls : Value) (d : Option Addr) (pn : List (Addr × Obj)), Zc cls d oe → (∃ vs, oe.data = .fields vs) → PSs (X.suite a ((a, oe) :: pn)) (b0 :: suite) (ts a oe cls d)) (r : ClOk X hds l) : ClOk X (.ExceptHandler (some t) (some n) (b0 :: suite) pos :: hds) (⟨cs, i, ts⟩ :: l)
section
variable {X : Cx} {body : List Stmt} {h0 : ExceptHandler} {hds : List ExceptHandler} {l : List Clause} {pos : Pos} {tb : WX → TS} {Wout : WX}
/-- the error lies on the ground and is looked at by the clauses -/
theorem clauses_run {pins : List (Addr × Obj)} {σ : L2.St} {H : Hp} {D : Ends} {sI s' : Shared} {B : Heap} {a : Addr} {cls : Value} {d : Option Addr} (hs : X.stack = X.env :: X.outer) (hf : X.env.frame = some X.env.locals) (hN : X.N.Nodup) (tk : Takes X Wout) (J : Inv X pins σ H sI)
    (nb : ∀ b o, sI.heap.get? b = some o → b ∉ frs X.stack → B.get? b = some o) (na : H a = none) (os : s'.os = sI.os) (ag : AllBare s'.gens) {hds : List ExceptHandler} {l : List Clause} (hk : ClOk X hds l) :
    ∀ (h : Heap), HandSPX.FlyingZ B (X.env :: X.outer) a (Zc cls d) h → sI.heap.UpToSlots h → wCl X.K Wout D l cls d σ H → wpAny (model X.prog X.w) X.A (handleBy (.ref a) X.env hds) (SP X pins D) X.xe { s' with heap := h } := by
  have ok := J.ok
  have place : ∀ {h : Heap}, HandSPX.FlyingZ B (X.env :: X.outer) a (Zc cls d) h → a ≠ X.env.locals ∧ a ∉ X.fs := fun {h} fl => by
    obtain ⟨oe, vs, he, hz, hd⟩ := fl.there
    have nfr : a ∉ frs (X.env :: X.outer) := fun hm => by
      obtain ⟨_, o', e', hnf⟩ := fl.2.2.1.mem hm
      rw [he] at e'
      cases e'
      exact hnf _ hd
    exact ⟨fun z => nfr (List.mem_filterMap.mpr ⟨X.env, List.mem_cons_self, by rw [hf, z]⟩), fun hm => by
      obtain ⟨e, he, q⟩ := List.mem_filterMap.mp hm
      exact nfr (List.mem_filterMap.mpr ⟨e, List.mem_cons_of_mem _ he, q⟩)⟩
  induction hk with
  | nil =>
    intro h fl up want
    refine wpAny_handleBy_nil ?_
    obtain ⟨k1, k2, k3, oe, vs, T, oT, us, he, hz, hd, h1, hr⟩ := id fl
    unfold PySem.passOn
    refine wpAny_bind (wpAny_field he hd h1 ?_)
    rw [if_neg (show ¬ ((Value.ref T == Value.none) = true) from by simp)]
    have fin : wpAny (model X.prog X.w) X.A (setFlight (.ref a) X.env.frame) (fun _ s4 => wpAny (model X.prog X.w) X.A (throw (.ref a) : Sem Flow) (SP X pins D) X.xe s4) X.xe { s' with heap := h } := by
      rw [hf]
      exact HandSPX.setFlight_upZ fl fun h4 hh4 up4 => wpAny_throw (tk _ _ ⟨a, B, sI, pins, σ, H, cls, d, rfl, J, nb, up.trans up4, .inr (.inr (by rw [hs]; exact hh4)), na, os, ag, want⟩)
    first
      | exact wpAny_bind (wpAny_pure (wpAny_bind fin))
      | exact wpAny_bind fin
  | @cons t n i b0 suite pos cs ts hds2 l2 ht hi hln hsu r ih =>
    intro h fl up want
    obtain ⟨b, hb, yes, no⟩ := want
    obtain ⟨oe, vs, he, hz, hd⟩ := fl.there
    obtain ⟨nL, nF⟩ := place fl
    have J3 : Inv X pins σ H { s' with heap := h } := J.landed nb fl.1 up os ag
    refine wpAny_handleBy_cons (codeAny_handlers_test (ht a oe (X.pn ++ pins) [] _ σ H b _ _ (J3.suite he hd na nL nF) (by rw [hz.1]; exact hb) fun h5 k5 => ?_)) (by intro q; cases q)
    have fl5 := fly_kept k5 fl
    have up5 := up.trans (Heap.UpToSlots.of_keeps k5)
    cases b with
    | false => exact ih h5 fl5 up5 (no rfl)
    | true =>
      refine codeAny_handlers_suite_as (HandSPX.lands_againZ fl5 fun h6 fl6 up6 => ?_)
      obtain ⟨oe6, vs6, he6, hz6, hd6⟩ := fl6.there
      have J6 : Inv X pins σ H { s' with heap := h6 } := J.landed nb fl6.1 (up5.trans up6) os ag
      refine store_ok (X := X.suite a ((a, oe6) :: (X.pn ++ pins))) (v := .ref a) (J6.suite he6 hd6 na nL nF) hN hi (.inl hln) rfl (fun s7 S7 => ?_) (.inr hln)
      refine wpAny_mono ((hsu a oe6 cls d (X.pn ++ pins) hz6 ⟨_, hd6⟩).run [] s7 _ H _ S7 (yes rfl a oe6 hz6 ⟨_, hd6⟩ na)) (fun f s8 hsp => ?_) (fun _ _ z => False.elim z)
      have leave : ∀ {σ8 : L2.St} {H8 : Hp} {Q : Shared → Prop}, Inv (X.suite a ((a, oe6) :: (X.pn ++ pins))) [] σ8 H8 s8 → (∀ s9, Inv X pins (σ8.set i none) H8 s9 → Q s9) →
          wpAny (model X.prog X.w) X.A (do bindName X.env n .none; unbindBehindTheSuite X.env n pos) (fun _ s9 => Q s9) X.xe s8 := fun {σ8 H8 Q} S8 hq => gone_ok (S8.unsuite ok) hN hi hln hq
      cases f with
      | next => exact let ⟨_, _, S8, q8⟩ := hsp; leave S8 fun _ J9 => ⟨_, _, J9, q8⟩
      | brk => exact let ⟨_, _, S8, q8⟩ := hsp; leave S8 fun _ J9 => ⟨_, _, J9, q8⟩
      | cont => exact let ⟨_, _, S8, q8⟩ := hsp; leave S8 fun _ J9 => ⟨_, _, J9, q8⟩
      | ret u => exact let ⟨_, _, _, S8, r8, q8⟩ := hsp; leave S8 fun _ J9 => ⟨_, _, _, J9, r8, q8⟩
/-- try: body, except T as n: suite, .. -/
theorem ps_tryA (hs : X.stack = X.env :: X.outer) (hf : X.env.frame = some X.env.locals) (hN : X.N.Nodup) (tk : Takes X Wout)
    (hb : ∀ (W : WX) (pn : List (Addr × Obj)) (xe : Value → Shared → Prop), Takes (X.tr pn xe) W → PassesOwn (model X.prog X.w) X.A X.env xe → PSs (X.tr pn xe) body (tb W)) (hh : ClOk X (h0 :: hds) l) :
    PS X (.Try body (h0 :: hds) [] [] pos) (fun D σ H => tb (wCl X.K Wout D l) D σ H) := by
  constructor
  intro pins s σ H D I h
  have ok := I.ok
  have hfr : X.A.frames = some (X.env :: X.outer) := by rw [ok.frames, hs]
  refine wpAny_Try_except (wpAny_mono ((hb (wCl X.K Wout D l) (X.pn ++ pins) (fun e s1 => wpAny (model X.prog X.w) X.A (noteFrame e X.env) (fun _ s2 => wpAny (model X.prog X.w) X.A (setFlight e none) (fun _ s3 =>
    wpAny (model X.prog X.w) X.A (handleBy e X.env (h0 :: hds)) (SP X pins D) X.xe s3) X.xe s2) X.xe s1) (fun u s' xx => ?_) PassesOwn.looking).run [] s σ H D (I.toTry _) h) (fun f s1 hsp => ?_) (fun e s1 he => he))
  · obtain ⟨a, B, sI, pins', σ', H', cls, d, rfl, J', nb, up, sky, na, os, ag, want⟩ := xx
    have sky' : Sky B (X.env :: X.outer) a (Zc cls d) X.env.locals s'.heap := by rw [← hs]; exact sky
    show wpAny (model X.prog X.w) X.A (noteFrame (.ref a) X.env) _ _ _
    exact Sky.land Zc.steady hfr hf sky' fun h3 fl3 up3 => clauses_run hs hf hN tk (J'.ofTry ok) nb na os ag hh h3 fl3 (up.trans up3) want
  · cases f with
    | next => exact let ⟨σ', H', J', q⟩ := hsp; wpAny_execs_nil ⟨σ', H', J'.ofTry ok, q⟩
    | brk => exact let ⟨σ', H', J', q⟩ := hsp; ⟨σ', H', J'.ofTry ok, q⟩
    | cont => exact let ⟨σ', H', J', q⟩ := hsp; ⟨σ', H', J'.ofTry ok, q⟩
    | ret u => exact let ⟨v, σ', H', J', r, q⟩ := hsp; ⟨v, σ', H', J'.ofTry ok, r, q⟩
end
end Sz
/-! own errors with one field, over any built-in base -/
namespace Sz
open PySem PySem.Spec PyProof.Rows L2
/-- what is written of the error class at C: its __init__ at fI sets the field f -/
structure ErrC (K : PySem.W.Frag) (C fI : Addr) (f : Str) : Prop where
  ex : ∃ (B newId initId : String) (bmB : List Value), ExcBaseFacts B newId initId bmB ∧ StoreFacts B bmB "object.__setattr__" "object" ∧ PySem.W.excInitIn K C bmB newId = true ∧ PySem.W.excOver K C bmB = true
  sa : PySem.W.findIn K (.ref C) "__setattr__" = some (some (.builtin "object.__setattr__"))
  tk : PySem.W.takerIn K C f = some none
  hd : PySem.W.hasDictIn K C = true
  exC : PySem.W.subIn K (.ref C) (.type "BaseException") = some true
  tyC : PySem.W.typeIn K (.ref C) = some (.type "type")
  kC : PySem.W.keepIn K (.ref C) = true
  iC : PySem.W.findIn K (.ref C) "__init__" = some (some (.ref fI))
  tI : PySem.W.typeIn K (.ref fI) = some (.type "function")
section
open Builtin Builtin.ObjectAttr
variable {prog : Program} {w : World} {A : Around} {R : Result → Shared → Prop} {hp : Heap} {g : Array GenState} {d : Drawn} {t : Nat} {os : OsState}
/-- the first field of an error -/
theorem err_osa {K : PySem.W.Frag} {C fI : Addr} {f : Str} {tk : Tok} {v : Value} {x : Addr} {fv : Array Value} (T : ErrC K C fI f) (X : K.In hp) (hx : hp.get? x = some { cls := .ref C, data := .fields fv })
    (hq : ∀ h' tk' dx, (∀ b o, b ≠ x → hp.get? b = some o → h'.get? b = some o) → hp.objs.size ≤ dx → dx ≠ x → h'.get? x = some { cls := .ref C, dict := some dx, data := .fields fv } →
      h'.Ns1 dx (fun y => if y = f then some v else none) → R (.ok (.ret .none)) ⟨h', g, d, tk', os⟩) :
    codeAny (model prog w) A (.call (.builtin "object.__setattr__") ⟨[.ref x, .str f tk, v], []⟩) R ⟨hp, g, d, t, os⟩ := by
  obtain ⟨B, newId, initId, bmB, FB, SF, _, ov⟩ := T.ex
  have hxs : x ≠ hp.objs.size := Nat.ne_of_lt (Heap.lt_size hx)
  refine PySem.W.osa_openX (s := ⟨hp, g, d, t, os⟩) (od := none) SF X ⟨hx, rfl, rfl, trivial⟩ ov T.tk fun b => ?_
  show wpAny _ _ (storeInOwnDict (.ref x) (.ref C) (.str f tk) f v b) _ _ _
  obtain ⟨cd, hc, hh⟩ := PySem.W.any_some T.hd
  have hcls : PySem.W.Looks (model prog w) hp (classData C) cd := PySem.W.looks_clsIn X hc
  obtain ⟨nm, bs, mro, ns, qn, hd, sn, sb, ab, col, del⟩ := cd
  dsimp only at hh
  subst hh
  unfold storeInOwnDict ownDictForStores
  repeat (first | with_reducible refine HandSPX.store_in_new ?_ ?_ | with_reducible refine wpAny_loadPart_at hx ?_ | with_reducible refine hcls.at ?_ | wp_step)
  · exact ⟨_, #[], _, (Heap.get?_update_ne _ _ _ _ hxs.symm).trans (Heap.get?_push_at rfl rfl), rfl, fun e he => absurd he (by simp), fun _ => rfl⟩
  · intro h' tk' hn' hs
    have h1 : (hp.push { cls := .type "dict", data := .dict #[] }).get? x = some { cls := .ref C, data := .fields fv } := Heap.get?_push_of_some _ hx
    refine hq h' tk' hp.objs.size (fun b o hb ho => ?_) (Nat.le_refl _) hxs.symm ?_ hn'
    · exact (hs.2 b (Nat.ne_of_lt (Heap.lt_size ho))).trans ((Heap.get?_update_ne _ _ _ _ hb).trans (Heap.get?_push_of_some _ ho))
    · exact (hs.2 x hxs).trans (Heap.get?_update_self _ h1 rfl)
end
section
variable {X : Cx} {pins : List (Addr × Obj)} {σ : L2.St} {H : Hp} {s : Shared} {a C fI dx : Addr} {f : Str} {y : V} {u : Value}
theorem err_first {A : Around} {Q : Unit → Shared → Prop} {E : Value → Shared → Prop} (T : ErrC X.K C fI f) (I : Inv X pins σ H s) (e : H a = some (exo a C none)) (ry : RelV y u)
    (h : ∀ dx s', H dx = none → dx ≠ a → Inv X pins σ (upd (upd H dx (exd dx [(f, y)])) a (exo a C (some dx))) s' → Q () s') : wpAny (model X.prog X.w) A (setAttr (.ref a) f u) Q E s := by
  obtain ⟨t1, ho⟩ := exo_at I.hok e
  obtain ⟨hp, g, dr, t, os⟩ := s
  refine PySem.W.set_plain I.kIn (ox := { cls := .ref C, dict := none, data := .fields #[.ref t1, .none, .none, .none, .bool false, .none] }) (od := none) ⟨ho, rfl, rfl, trivial⟩ T.sa (err_osa T I.kIn ho fun h' tk' dx k dn dne hx hn => ?_)
  have free : H dx = none := I.hok.fresh dn
  have old : ∀ {b : Addr} {o : Obj}, hp.get? b = some o → b ≠ dx := fun z => Nat.ne_of_lt (Nat.lt_of_lt_of_le (Heap.lt_size z) dn)
  have off : ∀ {b : Addr}, H b = none → b ≠ a := fun n z => by
    rw [z, e] at n
    cases n
  have same : ∀ {b : Addr} {o : HO}, H b = some o → exo a C none ≠ o → (upd (upd H dx (exd dx [(f, y)])) a (exo a C (some dx))) b = some o := fun z ne => by
    rw [upd_ne (at_ne e z ne), upd_ne (ne_of_none z free)]
    exact z
  refine h dx _ free dne (I.un (t' := tk') ⟨fun b o z n _ _ => k b o (off n) z, fun b o z n _ _ => ⟨o.slots, k b o (off n) z⟩, fun b o z n _ => by rw [upd_ne (off n), upd_ne (old z)]; exact n, fun b o z _ => ?_, fun b xs z => same z exo_tup, fun b o v z => same z exo_frz, fun b ps z => ⟨#[], by rw [same z exo_tbl]; simp⟩⟩ fun b o z => ?_)
  · by_cases hb : b = a
    · exact ⟨_, by rw [hb]; exact hx⟩
    · exact ⟨o, k b o hb z⟩
  · by_cases hb : b = a
    · subst hb
      rw [upd_same] at z
      cases z
      exact exo_ok hx
    · rw [upd_ne hb] at z
      by_cases hd : b = dx
      · subst hd
        rw [upd_same] at z
        cases z
        exact exd_ok hn (relO_put (fs := []) ry fun _ => True.intro)
      · rw [upd_ne hd] at z
        refine (I.hok b o z).stay (fun c v hc q => k c v ?_ q) (fun c hc => same hc exo_own) (fun c xs hc => same hc exo_tup)
        rcases hc with hc | hc
        · rw [hc]
          exact hb
        · exact at_ne e hc exo_own
/-- self.f = e in an error's __init__ -/
theorem ps_errFld {o v : Expr} {p' pos : Pos} {to te : TE} (hop : PE X o to) (hv : PE X v te) (hs : swapsWith v (some (.Attribute o f p')) pos.line X.env = pure false := by rfl) :
    PS X (.Assign [.Attribute o f p'] v pos) (fun D σ H => te σ H fun y H1 => to σ H1 fun x H2 => ∃ a C fI : Addr, x = .ref a ∧ ErrC X.K C fI f ∧ H2 a = some (exo a C none) ∧ ∀ dx, H2 dx = none → dx ≠ a → D.nx σ (upd (upd H2 dx (exd dx [(f, y)])) a (exo a C (some dx)))) := by
  constructor
  intro pins s σ H D I h
  refine plainObj_wpAny_Assign_Attribute (thn (hv.run pins s σ H _ I h) fun w1 s1 ⟨y, H1, I1, r1, q1⟩ => thn (hop.run pins s1 σ H1 _ I1 q1) fun w2 s2 ⟨x, H2, I2, r2, a, C, fI, ex, T, ea, q⟩ => ?_) hs
  subst ex
  obtain rfl : w2 = Value.ref a := r2
  exact err_first T I2 ea r1 fun dx s' n ne J => ⟨σ, _, J, q dx n ne⟩
end
/-- what __init__ of an error class promises -/
def spErr (K : PySem.W.Frag) (C fI : Addr) (f : Str) : Sp := fun vs H Q _ => ∃ (a : Addr) (v : V), vs = [.ref a, v] ∧ ErrC K C fI f ∧ H a = some (exo a C none) ∧ ∀ dx, H dx = none → dx ≠ a → Q .non (upd (upd H dx (exd dx [(f, v)])) a (exo a C (some dx)))
/-- raise C(e) asks: the field's value, then the wish of the error with its own dict -/
def tErr (C : Addr) (f : Str) (te : TE) : L2.St → Hp → XK → Prop := fun σ H Q => te σ H fun v H1 => ∀ d, H1 d = none → Q (.ref C) (some d) (upd H1 d (.xd [(f, v)]))
section
variable {X : Cx} {x : Str} {C fI : Addr} {f : Str} {e : Expr} {te : TE} {k : Nat} {p pos : Pos} {fd : FuncData} {ps : List Str}
theorem pmk_err (T : ErrC X.K C fI f) (F1 : FnOk X.prog X.w X.K X.mg X.base CX0 k fI fd ps (spErr X.K C fI f)) (hb : Binds X.K fd ps []) (hr : Room (k + 1) X.A) (hg : Gl X x) (hm : X.mg x = some (.ref C)) (he : PE X e te)
    (hdb : (x == ("__debug__" : Str)) = false := by decide) (hst : starEach [e] X.env = (false, eval e X.env) :: starEach [] X.env := by rfl) (hpl : (backTo pos (starEach [] X.env)).any (·.1) = false := by rfl) :
    PMk X (.Call (.Name x p) [e] [] pos) (tErr C f te) := by
  intro pins s σ H Q I h
  obtain ⟨B, newId, initId, bmB, FB, SF, ini, _⟩ := T.ex
  refine wpAny_Call_Name_kw (ld_glob I hg hm ?_ hdb)
  refine PySem.W.callWith_K (h₀ := X.base) I.ok.mod.kin T.kC (thn ((pa_cons he pa_nil hst).run pos pins s σ H (fun vs H1 => match vs with | [v] => ∀ d, H1 d = none → Q (.ref C) (some d) (upd H1 d (.xd [(f, v)])) | _ => False) I h) ?_) hst hpl
  rintro us s1 ⟨vs, H1, I1, r1, q⟩
  match vs, r1, q with
  | [v], r1, q =>
    obtain ⟨uv, rfl, ru⟩ := vals1 r1
    refine ⟨I1.kIn, ?_⟩
    show wpAny _ _ (call (.ref C) [uv]) _ _ _
    obtain ⟨nm, N', qn, bs, bm, hdct, sn, sub, ab, col, dd, k0, k1, k2, k3, k5, hC, hT⟩ := PySem.W.excInit_of I1.kIn ini
    obtain ⟨hp, g, dr, tk, os⟩ := s1
    have hsz : hp.objs.size ≤ hp.objs.size + 1 := Nat.le_succ _
    have hn : H1 (hp.objs.size + 1) = none := I1.hok.fresh hsz
    have kk : ∀ b o, hp.get? b = some o → ((hp.push (PySem.W.kdv_tup [uv])).push (HandSPX.excO C hp.objs.size)).get? b = some o := fun b o z => Heap.get?_push_of_some _ (Heap.get?_push_of_some _ z)
    have hget : ((hp.push (PySem.W.kdv_tup [uv])).push (HandSPX.excO C hp.objs.size)).get? (hp.objs.size + 1) = some (HandSPX.excO C hp.objs.size) := by heap_get
    have I2 : Inv X pins σ (upd H1 (hp.objs.size + 1) (exo (hp.objs.size + 1) C none)) ⟨(hp.push (PySem.W.kdv_tup [uv])).push (HandSPX.excO C hp.objs.size), g, dr, tk, os⟩ := I1.laid (t' := tk) kk hsz (exo_ok hget)
    have r2 : Vals [V.ref (hp.objs.size + 1), v] [Value.ref (hp.objs.size + 1), uv] := .cons rfl (.cons ru .nil)
    have want : spErr X.K C fI f [V.ref (hp.objs.size + 1), v] (upd H1 (hp.objs.size + 1) (exo (hp.objs.size + 1) C none)) (fun z H2 => z = .non ∧ ∃ (d : Addr) (fs : List (Str × V)), H2 (hp.objs.size + 1) = some (exo (hp.objs.size + 1) C (some d)) ∧ H2 d = some (exd d fs) ∧ H1 d = none ∧
        Q (.ref C) (some d) (upd (del H2 (hp.objs.size + 1)) d (.xd fs))) (fun _ _ _ => False) := by
      refine ⟨_, v, rfl, T, upd_same, fun dx hdx ndx => ⟨rfl, dx, [(f, v)], upd_same, ?_, ?_, ?_⟩⟩
      · rw [upd_ne ndx, upd_same]
      · rw [upd_ne ndx] at hdx
        exact hdx
      · rw [upd_ne ndx] at hdx
        have eq : upd (del (upd (upd (upd H1 (hp.objs.size + 1) (exo (hp.objs.size + 1) C none)) dx (exd dx [(f, v)])) (hp.objs.size + 1) (exo (hp.objs.size + 1) C (some dx))) (hp.objs.size + 1)) dx (.xd [(f, v)]) = upd H1 dx (.xd [(f, v)]) := by
          funext b
          by_cases hb : b = dx
          · rw [hb, upd_same, upd_same]
          · rw [upd_ne hb, upd_ne hb]
            by_cases ha : b = hp.objs.size + 1
            · rw [ha, del_same, hn]
            · rw [del_ne ha, upd_ne ha, upd_ne hb, upd_ne ha]
        rw [eq]
        exact q dx hdx
    have hl : [Value.ref (hp.objs.size + 1), uv].length = ps.length := F1.len _ _ _ _ want
    refine wpAny_call (HandSPX.call_own FB hT hC (PySem.W.looks_findIn I1.kIn T.iC) (fun self => PySem.W.bind_fn I1.kIn self T.tI) (by show 1 ≤ sizeLine; decide)
      (codeAny_mono (F1.run _ X.stack _ _ ⟨[Value.ref (hp.objs.size + 1), uv], []⟩ ([Value.ref (hp.objs.size + 1), uv] ++ []) ([V.ref (hp.objs.size + 1), v] ++ []) _ (fun _ _ _ => False) (hr.make C [uv] []) (I2.env0.make C [uv] []) (hb _ [Value.ref (hp.objs.size + 1), uv] I2.kIn hl) (r2.append .nil) want) fun r s' hq => ?_))
    cases r with
    | error er => exact False.elim hq
    | ok fl =>
      cases fl with
      | ret u =>
        obtain ⟨z, H2, os2, bare2, un2, hok2, rv, ez, d, fs, ea, ed, hd1, q2⟩ := hq
        subst ez
        obtain ⟨h2, g2, d2, t2, os'⟩ := s'
        exact ⟨rv, mk_end (raises_own T.exC T.tyC) I1 hsz kk un2 hok2 os2 bare2 ea ed hd1 q2⟩
      | next => exact False.elim hq
      | brk => exact False.elim hq
      | cont => exact False.elim hq
end
end Sz
/-! isinstance and the fields of the error that is pinned -/
namespace Sz
open PySem PySem.Spec PyProof.Rows L2
section
open PySem.W PySem.Calls
variable {prog : Program} {w : World} {A : Around} {E : Value → Shared → Prop} {s : Shared} {K : Frag} {x D : Addr} {ox : Obj} {od : Option Obj}
/-- x.__class__ of an error, with a dict or without -/
theorem err_class {Q : Option Value → Shared → Prop} (T : ExcC K D) (X : K.In s.heap) (I : InstAt s.heap x ox D od) (h : Q (some (.ref D)) { s with toks := s.toks + 1 }) : wpAny (model prog w) A (getAttr? (.ref x) "__class__") Q E s := by
  have isC : (clsIn K D).isSome = true := by obtain ⟨cd, hc, _⟩ := any_some T.hd; rw [hc]; rfl
  have found : findObj K D od "__class__" = some (.bind (.builtin "getset_descriptor.__get__") (.builtin "object.__class__")) := by
    cases od with
    | none => exact findObj_dataN isC T.ha T.hn T.ht
    | some o => exact findObj_data isC T.ha T.hn T.ht
  obtain ⟨hp, g, dr, t, os⟩ := s
  have l0 := I.type (M := model prog w)
  have l1 := looks_findIn (M := model prog w) X T.hg
  have l2 := looks_findIn (M := model prog w) X T.hk
  have l3 := looks_find (M := model prog w) X I found
  have sub : Looks (model prog w) hp (isInstance (.ref x) (.type "BaseException")) true := l0.andThen (looks_subIn X T.hs)
  have n2 : (Value.builtin "BaseException.__getattribute__" == Value.builtin "object.__getattribute__") = false := by decide +kernel
  have n1 : (onTheHeap (Value.ref D) && Value.builtin "BaseException.__getattribute__" == Value.builtin "object.__getattribute__") = false := by rw [n2]; rfl
  unfold getAttr? getAttrBy? getAttrBy
  refine wpAny_bind (wpAny_mkText (wpAny_bind (wpAny_attempt (wpAny_holding (wpAny_bind (l0.at (wpAny_bind (l1.at ?_))))))))
  show wpAny _ _ (if (onTheHeap (Value.ref D) && Value.builtin "BaseException.__getattribute__" == Value.builtin "object.__getattribute__") = true then _ else _) _ _ _
  rw [n1, if_neg Bool.false_ne_true]
  unfold getAttrByItsOwn hookBefore
  refine wpAny_bind ?_
  rw [if_pos (show onTheHeap (Value.ref D) = true from rfl)]
  refine l2.at (wpAny_bind (wpAny_attempt (wpAny_holding ?_)))
  unfold callGetattribute
  rw [show (false && onTheHeap (Value.builtin "BaseException.__getattribute__")) = false from rfl, if_neg Bool.false_ne_true]
  unfold boundAndCalled
  rw [PySem.F.excAttr_ValueError.ga.bind (.ref x)]
  refine wpAny_bind (wpAny_pure ?_)
  show wpAny _ _ (call (.builtin "BaseException.__getattribute__") [.ref x, .str "__class__" t]) _ _ _
  refine wpAny_call (codeAny_call_builtin PySem.F.excAttr_ValueError.ga.plain PySem.F.entry_bexc_ga (@check_slot (model prog w) _ _ ⟨hp, g, dr, t + 1, os⟩ "BaseException.__getattribute__" "BaseException" "__getattribute__" (.ref x) [.str "__class__" t] [] _ (by decide +kernel) (by decide +kernel) sub (PySem.F.args_bexc_ga (.ref x) (.str "__class__" t)) ?_))
  unfold Builtin.«object.__getattribute__»
  refine wpAny_bind (wpAny_of_eq (a := ((Value.ref x : Value), [Value.str "__class__" t])) (by first | rfl | (simp only [slotArgs]; rfl)) ?_)
  refine wpAny_bind (wpAny_pure (wpAny_bind (l0.at (wpAny_bind (l3.at ?_)))))
  show wpAny _ _ (holding [Value.builtin "object.__class__"] (call (.builtin "getset_descriptor.__get__") [.builtin "object.__class__", .ref x, .ref D]) >>= ret) _ _ _
  refine wpAny_bind (wpAny_holding (wpAny_call (class_get (s := ⟨hp, g, dr, t + 1, os⟩) (ox := ox) (od := od) X I T.hm ?_)))
  refine wpAny_pure ?_
  show wpAny _ _ (handedOut (.ref D)) _ _ _
  rw [handedOut_of (v := .ref D) rfl]
  first
    | exact wpAny_pure (wpAny_pure h)
    | exact wpAny_pure h
    | exact wpAny_pure (wpAny_bind (wpAny_pure (wpAny_pure h)))
theorem cls_obj {cd : ClassData} (hc : clsIn K D = some cd) : ∃ c dd sl, K.lookup D = some ⟨c, dd, .cls cd, sl⟩ := by
  unfold clsIn at hc
  split at hc
  · rename_i c dd cd' sl ho
    cases hc
    exact ⟨_, _, _, ho⟩
  · cases hc
theorem kit_err (T : ExcC K D) : KitX K (.ref x) (.ref D) (fun h => ∃ od, InstAt h x ox D od) := by
  obtain ⟨cd, hc, _⟩ := any_some T.hd
  obtain ⟨c, dd, sl, ho⟩ := cls_obj hc
  refine ⟨fun _ _ _ ⟨od, I⟩ => I.type, fun _ _ X _ A' Q' E' s' k q => ?_, fun h tp dd' its n sl' X htp => ?_, fun X ⟨od, I⟩ k => err_class T X I k⟩
  · unfold isType loadHead
    exact wpAny_bind (wpAny_loadPart (k _ _ (X _ _ ho)) (wpAny_pure q))
  · refine Bool.eq_false_iff.mpr fun q => ?_
    have e : D = tp := Value.ref.inj (beq_iff_eq.mp q)
    subst e
    cases (X _ _ ho).symm.trans htp
end
section
variable {X : Cx} {a : Addr} {oe : Obj}
/-- isinstance(e, c), e the pinned error -/
def rIsP (K : PySem.W.Frag) (a : Addr) (oe : Obj) : List V → Hp → VK → Prop := fun xs H Q => ∃ (c : V) (cv : Value) (D : Addr) (b : Bool), xs = [.ref a, c] ∧ (∀ u, RelV c u → u = cv) ∧ oe.cls = .ref D ∧ ExcC K D ∧ (∃ vs, oe.data = .fields vs) ∧ (oe.dict = none ∨ ∃ (d : Addr) (fs : List (Str × V)), oe.dict = some d ∧ H d = some (.xd fs)) ∧ PySem.W.kitOne K (.ref D) cv = some b ∧ Q (.bl b) H
theorem inst_pin {pins : List (Addr × Obj)} {σ : L2.St} {H : Hp} {s : Shared} {D : Addr} (hp : (a, oe) ∈ X.pn) (I : Inv X pins σ H s) (hc : oe.cls = .ref D) (hv : ∃ vs, oe.data = .fields vs) (hd : oe.dict = none ∨ ∃ (d : Addr) (fs : List (Str × V)), oe.dict = some d ∧ H d = some (.xd fs)) :
    ∃ od, PySem.W.InstAt s.heap a oe D od := by
  have hg := (I.pin (a, oe) (List.mem_append_left _ hp)).1
  obtain ⟨vs, hv⟩ := hv
  have nc : PySem.W.notCls oe = true := by unfold PySem.W.notCls; rw [hv] <;> rfl
  rcases hd with hd | ⟨d, fs, hd, he⟩
  · exact ⟨none, hg, hc, nc, by rw [hd]; trivial⟩
  · have hx : ObjOk X.prog X.w H s.heap d (.xd fs) := I.hok d _ he
    obtain ⟨mA, hns, _⟩ := hx
    obtain ⟨od, ho, _⟩ := lookIn_ns hns
    exact ⟨some od, hg, hc, nc, by rw [hd]; exact ho⟩
theorem call_isP (hp : (a, oe) ∈ X.pn) : CallR X (.builtin "isinstance") (rIsP X.K a oe) := by
  intro pins s σ H xs us Q I r h
  obtain ⟨c, cv, D, b, rfl, hcv, hc, T, hv, hd, e, q⟩ := h
  cases r with
  | cons rx rr =>
    cases rr with
    | cons rt rr =>
      cases rr
      cases rx
      cases hcv _ rt
      exact PySem.W.kia_one (kit_err T) I.kIn (inst_pin hp I hc hv hd) e (fun z => nomatch z) fun tk => ⟨.bl b, H, I.kept (t' := tk) fun _ _ z => z, rfl, q⟩
/-- e.f, e the pinned error -/
def tXfP (K : PySem.W.Frag) (a : Addr) (oe : Obj) (f : Str) (te : TE) : TE := fun σ H Q => te σ H fun x H1 => x = .ref a ∧ ∃ (D d : Addr) (fs : List (Str × V)) (v : V), oe.cls = .ref D ∧ oe.dict = some d ∧ (∃ vs, oe.data = .fields vs) ∧ XfC K D ∧ PySem.W.findIn K (.ref D) f = some none ∧ H1 d = some (.xd fs) ∧ fs.lookup f = some v ∧ Q v H1
theorem pe_xfP {e : Expr} {te : TE} {pos : Pos} {n : Str} (hp : (a, oe) ∈ X.pn) (he : PE X e te) (hb : attributeBase e n X.env (eval e X.env) = eval e X.env := by rfl) : PE X (.Attribute e n pos) (tXfP X.K a oe n te) := by
  constructor
  intro pins s σ H Q I h
  refine attr_of hb (thn (he.run pins s σ H _ I h) fun u s1 hh => ?_)
  obtain ⟨x, H1, I1, rx, rfl, D, d, fs, v, hc, hd, ⟨vs, hv⟩, T, hno, ea, l, q⟩ := hh
  obtain rfl : u = Value.ref a := rx
  have hx : ObjOk X.prog X.w H1 s1.heap d (.xd fs) := I1.hok d _ ea
  obtain ⟨mA, hns, hr⟩ := hx
  obtain ⟨od, ho, hl⟩ := lookIn_ns hns
  obtain ⟨u, hu, ru⟩ := RelO.some_of (v := v) (o := mA n) (by rw [← l]; exact hr n)
  have hg := (I1.pin (a, oe) (List.mem_append_left _ hp)).1
  have J : PySem.W.InstAt s1.heap a oe D (some od) := ⟨hg, hc, by unfold PySem.W.notCls; rw [hv] <;> rfl, by rw [hd]; exact ho⟩
  exact HandSPX.exc_get I1.kIn J T.ga T.gg T.exC (PySem.W.findObj_own T.hdC hno rfl (by rw [hl, hu])) (handed_of ru) ⟨v, H1, I1.tok _, ru, q⟩
end
end Sz
/-! what repr shows of things of many kinds; counting among flat values -/
namespace Sz
open PySem PySem.Spec PyProof.Rows L2
/-- repr of v is z -/
inductive Shw (K : PySem.W.Frag) (H : Hp) : V → Str → Prop
  | flat {v : V} {z : Str} (h : flatShown v = some z) : Shw K H v z
  | str {y : Str} (h : (reprText y).length ≤ sizeLine) : Shw K H (.str y) (reprText y)
  | dat {a : Addr} {d : PyData} (h : Dp K H (.ref a) d) (h1 : d.showable = true) (h2 : d.hasDict = false) (h3 : d.depth ≤ 40) (h4 : d.shown.length ≤ sizeLine) : Shw K H (.ref a) d.shown
  | edict {a : Addr} (h : H a = some (.dK [])) : Shw K H (.ref a) "{}"
def rReprW (K : PySem.W.Frag) : List V → Hp → VK → Prop := fun xs H Q => ∃ (v : V) (z : Str), xs = [v] ∧ Shw K H v z ∧ Q (.str z) H
section
variable {X : Cx}
theorem cr_reprW (gd : X.A.guards = some []) (hu : X.A.units + 64 < cLine) : CallR X (.builtin "repr") (rReprW X.K) := by
  intro pins s σ H xs us Q I r h
  obtain ⟨v, z, rfl, hs, q⟩ := h
  cases hs with
  | flat h => exact cr_repr pins s σ H [v] us Q I r ⟨v, z, rfl, h, q⟩
  | str h => exact cr_reprS pins s σ H _ us Q I r ⟨_, rfl, h, q⟩
  | dat h h1 h2 h3 h4 => exact cr_reprD gd hu pins s σ H _ us Q I r ⟨_, _, rfl, h, h1, h2, h3, h4, q⟩
  | @edict a h =>
    obtain ⟨u, rfl, ru⟩ := vals1 r
    cases (show u = Value.ref a from ru)
    obtain ⟨_, ns, vs, kv, hd⟩ : ([] : List (Key × V)).length ≤ sizeLine ∧ (a == sysModules) = false ∧ ∃ vs, KV [] vs ∧ s.heap.DictOf (mixKind X.prog X.w) a vs := I.hok a _ h
    cases kv
    obtain ⟨o, es, ep, e1, e2, e3, _, e4, _⟩ := hd
    have e5 : es.toList = [] := by
      cases q : es.toList with
      | nil => rfl
      | cons x l =>
        rw [q] at e4
        cases e4
    have rd : Reads s.heap (.ref a) (.dict []) [a] := .dict (as := []) (bs := []) e1 e2.1 e3 (by rw [e5]; exact .nil) (by rw [e5]; exact .nil)
    refine repr_of_reads' rd (by decide) (fun _ z => ?_) gd (by show X.A.units + (1 + 1) < cLine; omega) (fun _ _ z => z) (fun h' tok tk kept => ?_) (by decide +kernel)
    · have z2 : sysModules = a := by simpa using z
      rw [z2] at ns
      simp at ns
    · exact ⟨.str "{}", H, I.kept (t' := tk) kept, ⟨_, by rw [show (PyData.dict []).shown = "{}" by decide +kernel]⟩, q⟩
/-- xs.count(y), flat values -/
def rCntF (K : PySem.W.Frag) : V → List V → Hp → VK → Prop := fun x xs H Q => ∃ (p : Addr) (ys : List V) (y : V), x = .ref p ∧ xs = [y] ∧ SqL K H p ys ∧ flatV y = true ∧ ys.all flatV = true ∧ Q (.int (ys.countP fun z => eqV z y : Nat)) H
theorem cnt_eqU {y : V} : ∀ {ys : List V} {us : List Value}, Vals ys us → ys.all flatV = true → us.countP (eqU y) = ys.countP fun z => eqV z y
  | _, _, .nil, _ => rfl
  | z :: ys, u :: us, .cons r t, f => by
    rw [List.all_cons, Bool.and_eq_true] at f
    rw [List.countP_cons, List.countP_cons, cnt_eqU t f.2, eqU_of r f.1]
theorem mt_countF : MtR X "list.count" (rCntF X.K) := by
  intro pins s σ H x xs v us Q I rx rxs h
  obtain ⟨p, ys, y, rfl, rfl, hs, fy, fys, q⟩ := h
  cases rx
  obtain ⟨u, rfl, ru⟩ := rxs.one
  obtain ⟨its, rv, ⟨⟨cls, dd, data, sl⟩, n, ho, hc, hdn, hd⟩, hlen⟩ := I.list hs
  simp only at hc hd
  subst hc hd
  refine call_meets PySem.F.slot_list_count ⟨_, ho, rfl⟩ PySem.F.entry_list_count (PySem.F.args_list_count_2 _ _)
    (SeqAt.list_countAt p its.toArray n dd sl u (eqU y)) ⟨ho, fun z hz => mem_eqAt ru fy rv fys z (by simpa using hz), ?_⟩
  refine ⟨.int (ys.countP fun z => eqV z y : Nat), H, I.tok _, ⟨s.toks, ?_⟩, q⟩
  show Value.int ((its.toArray.toList.countP (eqU y) : Nat) : Int) s.toks = _
  rw [show its.toArray.toList = its from rfl, cnt_eqU rv fys]
end
end Sz
/-! a head that tells of the tables of code objects too, and the law's call with them -/
namespace Sz
open PySem PySem.Spec PyProof.Rows L2
/-! ### the hook -/
structure SaysU (fb : PySem.W.Frag → Bool) (fa : List He.Fa) (fn : List He.DefD) (ts : List He.Tab) (tf : List He.Defn) (w : World) (h : Heap) (K : PySem.W.Frag) : Prop where
  x : SaysX fb fa fn ts w K
  hd : ∀ p ∈ tf, PySem.W.codeHdIn K (He.cT K p).1 (He.cT K p).2 = true
  out : ∀ p ∈ tf, K.lookup (He.cT K p).2 = none
  empty : ∀ p ∈ tf, h.get? (He.cT K p).2 = some { cls := .none, data := .fields #[] }
def obsUG (n : Nat) (fb : PySem.W.Frag → Bool) (fa : List He.Fa) (fn : List He.DefD) (ts : List He.Tab) (tf : List He.Defn) (g : Addr → Option Obj) : Bool × AlX := (He.tabsB g tf (He.frT g (asX g n)), obsX fb fa fn ts (He.frT g (asX g n)))
def hookU (n : Nat) (fb : PySem.W.Frag → Bool) (fa : List He.Fa) (fn : List He.DefD) (ts : List He.Tab) (tf : List He.Defn) : PySem.W.Hook where
  α := Bool × AlX
  obs := fun s => obsUG n fb fa fn ts tf s.heap.get?
  val := fun w => (true, valX fn ts w)
  says := fun w h => ∃ K : PySem.W.Frag, K.In h ∧ SaysU fb fa fn ts tf w h K
  of := fun w s e => by
    have e1 : He.tabsB s.heap.get? tf (He.frT s.heap.get? (asX s.heap.get? n)) = true := congrArg (fun z : Bool × AlX => z.1) e
    have e2 : obsX fb fa fn ts (He.frT s.heap.get? (asX s.heap.get? n)) = valX fn ts w := congrArg (fun z : Bool × AlX => z.2) e
    have key : ∀ p ∈ tf, PySem.W.codeHdIn (He.frT s.heap.get? (asX s.heap.get? n)) (He.cT (He.frT s.heap.get? (asX s.heap.get? n)) p).1 (He.cT (He.frT s.heap.get? (asX s.heap.get? n)) p).2 = true ∧ ∃ o, s.heap.get? (He.cT (He.frT s.heap.get? (asX s.heap.get? n)) p).2 = some o ∧ He.emptyTab o = true := fun p hp => by
      obtain ⟨h3, h4⟩ := He.ba (List.all_eq_true.mp e1 p hp)
      refine ⟨h3, ?_⟩
      cases q : s.heap.get? (He.cT (He.frT s.heap.get? (asX s.heap.get? n)) p).2 with
      | none =>
        rw [q] at h4
        cases h4
      | some o =>
        rw [q] at h4
        exact ⟨o, rfl, h4⟩
    refine ⟨_, He.frT_in, e2, fun p hp => (key p hp).1, fun p hp => ?_, fun p hp => ?_⟩
    · obtain ⟨_, o, q, z⟩ := key p hp
      exact He.frT_none q z
    · obtain ⟨_, o, q, z⟩ := key p hp
      rw [q, He.emptyTab_eq z]
  keeps := fun _ _ _ ⟨K, hK, c⟩ k => ⟨K, PySem.W.Frag.In.keeps hK k, c.x, c.hd, c.out, fun p hp => k _ _ (c.empty p hp)⟩
theorem obsUG_eq {n : Nat} {fb : PySem.W.Frag → Bool} {fa : List He.Fa} {fn : List He.DefD} {ts : List He.Tab} {tf : List He.Defn} {g : Addr → Option Obj} {s : Shared} (h : ∀ a, g a = s.heap.get? a) : obsUG n fb fa fn ts tf g = (hookU n fb fa fn ts tf).obs s := by
  rw [show g = s.heap.get? from funext h]
  rfl
/-! ### the law's call -/
section
variable {P : Program} {w : World} {K : PySem.W.Frag} {mg mb : Str → Option Value} {k : Nat} {fa a : Addr} {fd : FuncData} {x : Str} {sp : Sp} {st : Shared} {vs : List Value} {ns : List Int} {cs : List (Addr × Addr)}
/-- the script and the tables -/
def scriptHpT (K : PySem.W.Frag) (a : Addr) (vs : List Value) (ns : List Int) (cs : List (Addr × Addr)) : Hp := fun b => if b ∈ cs.map (·.2) then some (.tbl #[]) else scriptHp K a vs ns b
theorem law_callGT (KX : K.In st.heap) (gl : st.heap.Ns mainGlobals mg) (bl : st.heap.Ns builtinsNs mb) (bb : ∀ y : Str, y ≠ "__name__" → mb y = bootBuiltins y) (nl : st.heap.NoLimit) (gn : st.gens = #[])
    (hT : ∀ p ∈ cs, st.heap.get? p.2 = some { cls := .none, data := .fields #[] }) (nT : ∀ p ∈ cs, K.lookup p.2 = none) (C : ∀ p ∈ cs, PySem.W.CodeHd st.heap p.1 p.2)
    (hbm : ∃ (bm : Addr) (ob : Obj), mg "__builtins__" = some (.ref bm) ∧ bm ≠ builtinsNs ∧ st.heap.get? bm = some ob ∧ ob.cls = .type "module" ∧ ob.dict = some builtinsNs ∧ ob.data = .plain)
    (ha : st.heap.get? a = some { cls := .type "list", data := .seq vs.toArray }) (hi : IntsAre vs ns) (hl : ns.length ≤ sizeLine) (room : Room k callerA)
    (F : ∀ base : Heap, K.In base → base.Ns mainGlobals mg → (∀ p ∈ cs, LamX.TabB base mg p.1 p.2) → FnG P w K mg base k fa fd [x] sp) (bind1 : ∀ (s : Shared) (u : Value), BindsTo s fd ⟨[u], []⟩ [(x, u)])
    (want : ∀ H : Hp, (∀ p ∈ cs, H p.2 = some (.tbl #[])) → SqL K H a (ns.map V.int) → sp [.ref a] H (fun v _ => v = .bl true) fun _ _ _ => False) :
    codeAny (model P w) callerA (.call (.ref fa) ⟨[.ref a], []⟩) (fun r s' => r = .ok (.ret (.bool true)) ∧ OldK st.heap s'.heap ∧ s'.os = st.os ∧ AllBare s'.gens) st := by
  have rel : Vals (ns.map V.int) vs := vals_ints hi
  have len : (ns.map V.int).length ≤ sizeLine := by rw [List.length_map]; exact hl
  generalize hH : scriptHpT K a vs ns cs = H
  have isT : ∀ b ∈ cs.map (·.2), st.heap.get? b = some { cls := .none, data := .fields #[] } := fun b hb => by
    obtain ⟨p, hp, e⟩ := List.mem_map.mp hb
    rw [← e]
    exact hT p hp
  have atT : ∀ p ∈ cs, H p.2 = some (.tbl #[]) := fun p hp => by
    rw [← hH]
    exact if_pos (List.mem_map.mpr ⟨p, hp, rfl⟩)
  have aT : a ∉ cs.map (·.2) := fun z => by
    have q := (isT a z).symm.trans ha
    cases q
  have sm : ∀ {b u}, H b = some u → (b ∈ cs.map (·.2) ∧ u = .tbl #[]) ∨ (b ∉ cs.map (·.2) ∧ b = a ∧ K.lookup a = none ∧ u = .frz { cls := .type "list", data := .seq vs.toArray } (.lst (ns.map V.int))) := fun {b u} e => by
    rw [← hH] at e
    by_cases hb : b ∈ cs.map (·.2)
    · exact .inl ⟨hb, (Option.some.inj ((if_pos hb).symm.trans e)).symm⟩
    · exact .inr ⟨hb, scriptHp_some ((if_neg hb).symm.trans e)⟩
  have ok : HOk P w H st.heap := fun b u e => by
    rcases sm e with ⟨hb, rfl⟩ | ⟨_, rfl, _, rfl⟩
    · exact isT b hb
    · exact ⟨ha, len, vs, _, rel, ha⟩
  have sq : SqL K H a (ns.map V.int) := by
    cases lk : K.lookup a with
    | none => exact Or.inl (Or.inr ⟨_, by rw [← hH]; exact (if_neg aT).trans (if_pos ⟨rfl, lk⟩)⟩)
    | some o =>
      have e := (KX a o lk).symm.trans ha
      cases e
      exact Or.inr ⟨_, vs.toArray, _, lk, rfl, rfl, rfl, by rw [List.size_toArray, ← rel.length]; exact len, by simpa using rel⟩
  have hid : ∀ {b o}, st.heap.get? b = some o → H b = none → (hidT st.heap H).get? b = some o := fun e n => hidT_get e n
  -- what is neither a list nor an empty record is not tracked
  have free : ∀ {b : Addr} {o : Obj}, st.heap.get? b = some o → (∀ vs n, o.data ≠ .seq vs n) → o.data ≠ .fields #[] → H b = none := fun {b o} e h1 h2 => by
    cases q : H b with
    | none => rfl
    | some u =>
      rcases sm q with ⟨hb, _⟩ | ⟨_, rfl, _, _⟩
      · cases (isT b hb).symm.trans e
        exact absurd rfl h2
      · cases ha.symm.trans e
        exact absurd rfl (h1 _ _)
  have freeN : ∀ {b : Addr} {m}, st.heap.Ns b m → H b = none := fun {b m} hn => by
    obtain ⟨o, es, ep, e1, e2, _⟩ := hn
    exact free e1 (fun _ _ z => by rw [e2] at z; cases z) (fun z => by rw [e2] at z; cases z)
  have ns1 : ∀ {b : Addr} {m}, st.heap.Ns b m → (hidT st.heap H).Ns b m := fun {b m} hn => by
    have fr := freeN hn
    obtain ⟨o, es, ep, e1, e2⟩ := hn
    exact ⟨o, es, ep, hid e1 fr, e2⟩
  have inB : K.In (hidT st.heap H) := fun b o e => hid (KX b o e) (by
    cases z : H b with
    | none => rfl
    | some u =>
      rcases sm z with ⟨hb, _⟩ | ⟨_, rfl, z2, _⟩
      · obtain ⟨p, hp, ep⟩ := List.mem_map.mp hb
        rw [← ep, nT p hp] at e
        cases e
      · rw [z2] at e
        cases e)
  have md : Mod K mg (hidT st.heap H) := ⟨inB, ns1 gl, ⟨mb, ns1 bl, bb⟩, let ⟨mc, c1, c2⟩ := nl; ⟨mc, ns1 c1, c2⟩⟩
  have TB : ∀ p ∈ cs, LamX.TabB (hidT st.heap H) mg p.1 p.2 := fun p hp => by
    refine ⟨?_, ?_, fun z => ?_⟩
    · obtain ⟨o, us, file, tf, flags, tg, inF, text, tt, e1, r1, r2, r3, r⟩ := C p hp
      exact ⟨o, us, file, tf, flags, tg, inF, text, tt, hid e1 (free e1 (fun _ _ z => by rw [r2] at z; cases z) (fun z => by rw [r2] at z; cases z; simp at r3)), r1, r2, r3, r⟩
    · obtain ⟨bm, ob, b1, b2, b3, b4, b5, b6⟩ := hbm
      refine ⟨bm, ob, b1, b2, fun q => ?_, fun q => ?_, hid b3 (free b3 (fun _ _ z => by rw [b6] at z; cases z) (fun z => by rw [b6] at z; cases z)), b4, b5, b6⟩
      · obtain ⟨o, es, ep, e, hd, _⟩ := gl
        rw [q, e] at b3
        cases b3
        rw [hd] at b6
        cases b6
      · rw [q, hT p hp] at b3
        cases b3
        cases b6
    · obtain ⟨o, es, ep, e, hd, _⟩ := gl
      rw [z, hT p hp] at e
      cases e
      cases hd
  have env : Env0 P w K mg (hidT st.heap H) callerA [] st H := ⟨rfl, md, fun _ _ e => of_hidT e, Nat.le_of_eq (hidT_size _ _), trivial, fun b z => absurd (show b ∈ ([] : List Addr) from z) (by simp), ok, .of_eq gn⟩
  refine codeAny_mono ((F _ inB (ns1 gl) TB).run callerA [] st H ⟨[.ref a], []⟩ [.ref a] [.ref a] _ _ room rfl env (bind1 st (.ref a)) (.cons rfl .nil) (want H atT sq)) fun r s' h => ?_
  cases r with
  | error z => exact False.elim h
  | ok fl =>
    cases fl with
    | next => exact False.elim h
    | brk => exact False.elim h
    | cont => exact False.elim h
    | ret u =>
      obtain ⟨v, H', os, bare, un, ok', ru, qv⟩ := h
      cases (show v = .bl true from qv)
      cases (show u = Value.bool true from ru)
      have old : ∀ b o, b ∉ cs.map (·.2) → st.heap.get? b = some o → s'.heap.get? b = some o := fun b o nb e => by
        cases z : H b with
        | none => exact un.keep b o e z (by intro y; exact absurd (show b ∈ ([] : List Addr) from y) (by simp)) (by simp)
        | some t =>
          rcases sm z with ⟨hb, _⟩ | ⟨_, rfl, _, rfl⟩
          · exact absurd hb nb
          · have e2 := (ok' _ _ (un.frzs _ _ _ z)).1
            cases ha.symm.trans e
            exact e2
      have grown : ∀ p ∈ cs, ∃ more : Array Value, s'.heap.get? p.2 = some { cls := .none, data := .fields more } := fun p hp => by
        obtain ⟨more, z⟩ := un.tbls p.2 #[] (atT p hp)
        exact ⟨_, ok' p.2 _ z⟩
      refine ⟨rfl, ⟨fun b o e => ?_, fun b o e => ?_⟩, os, bare⟩
      · by_cases hb : b ∈ cs.map (·.2)
        · obtain ⟨p, hp, rfl⟩ := List.mem_map.mp hb
          obtain ⟨more, hm⟩ := grown p hp
          cases (hT p hp).symm.trans e
          exact .inr (.inl ⟨((C p hp).tab (hT p hp)).isCodeTable, rfl, #[], more, rfl, by rw [Array.empty_append]; exact hm⟩)
        · exact .inl (old b o hb e)
      · by_cases hb : b ∈ cs.map (·.2)
        · obtain ⟨p, hp, rfl⟩ := List.mem_map.mp hb
          obtain ⟨more, hm⟩ := grown p hp
          exact ⟨_, hm⟩
        · exact ⟨o, old b o hb e⟩
end
/-- a law whose def is a PromG, with tables -/
theorem walk_ofGT {l : PySem.W.OpenLaw} {n k : Nat} {q : Program} {loose : List Str} {XP : (Str → Option Value) → Heap → Prop} {YP : World → Heap → Prop} {d : DefRec} {x : Str}
    (hn : l.most = some n) (hn2 : n ≤ sizeLine) (hdf : d.params.defaults = []) (room : Room k callerA)
    (F : ∀ (w : World) (mg : Str → Option Value) (fa : Addr) (h : Heap), YP w h → h.Ns mainGlobals mg → mg d.name = some (.ref fa) →
      ∃ (K : PySem.W.Frag) (fd : FuncData) (sp : Sp) (cs : List (Addr × Addr)), K.In h ∧ (∀ p ∈ cs, h.get? p.2 = some { cls := .none, data := .fields #[] }) ∧ (∀ p ∈ cs, K.lookup p.2 = none) ∧ (∀ p ∈ cs, PySem.W.CodeHd h p.1 p.2) ∧ (∀ (s : Shared) (u : Value), BindsTo s fd ⟨[u], []⟩ [(x, u)]) ∧
        (∀ (H : Hp) (a : Addr) (ns : List Int), ns.length ≤ n → (∀ z ∈ ns, Builtin.Int.intBits z ≤ 1048576) → (∀ p ∈ cs, H p.2 = some (.tbl #[])) → SqL K H a (ns.map V.int) → sp [.ref a] H (fun v _ => v = .bl true) fun _ _ _ => False) ∧
        ∀ base : Heap, K.In base → base.Ns mainGlobals mg → (∀ p ∈ cs, LamX.TabB base mg p.1 p.2) → FnG l.prog w K mg base k fa fd [x] sp) :
    PySem.W.WalkO q loose XP YP l.row.toRowW d [] (fun f vs => PySem.call f vs) := by
  refine Att.attach_callB hn hdf fun w sA sB mg mb fa o pm cd doc a vs ns G Y ho hd hcd hmg hobj hints hlen hbits hg => ?_
  obtain ⟨K, fd, sp, cs, KX, hT, nT, C, b1, want, hF⟩ := F w mg fa _ Y G.T.g hmg
  exact law_callGT KX G.T.g G.T.b G.T.builtins G.T.nolimit hg hT nT C G.T.bmain hobj hints (Nat.le_trans hlen hn2) room hF b1 (fun H hH hS => want H a ns hlen hbits hH hS)
end Sz
/-! a lambda handed to a def that catches what it raises -/
namespace Sz
open PySem PySem.Spec PyProof.Rows L2
theorem takes_len {X : Cx} {W : WX} (t : Takes X W) : Takes X (fun c d σ H => σ.length = X.N.length → W c d σ H) := fun u s' ⟨a, B, sI, pins, σ, H, cls, d, e, I, nb, up, sky, na, os, ag, w⟩ =>
  t u s' ⟨a, B, sI, pins, σ, H, cls, d, e, I, nb, up, sky, na, os, ag, w I.len⟩
/-- what is wished for may be had by something stronger -/
def tWeak (t : TE) : TE := fun σ H Q => ∃ K : VK, (∀ v H', K v H' → Q v H') ∧ t σ H K
theorem pe_weak {X : Cx} {e : Expr} {t : TE} (h : PE X e t) : PE X e (tWeak t) := ⟨fun pins s σ H Q I ⟨K, hK, ht⟩ => wpAny_mono (h.run pins s σ H K I ht) (fun _ _ ⟨v, H', J, r, q⟩ => ⟨v, H', J, r, hK v H' q⟩) (fun _ _ z => z)⟩
/-- the def that calls what it got, whatever its address -/
def Gives (X : Cx) (Ng : List Str) (x : Str) (st : Stmt) (a : Str) (TT : (XK → Hp → VK → Prop) → Hp → VK → Prop) : Prop := ∀ (g : Addr) (cdg : Value), LamX.GivesTo X Ng x (defScope st) g cdg (defBody st) a (X.env.qual ++ "<lambda>") TT
section
variable {X : Cx}
/-- x(lambda: body) -/
theorem pe_lamP {T : List (Addr × Str)} {TT : (XK → Hp → VK → Prop) → Hp → VK → Prop} {x a : Str} {st : Stmt} {c P : Addr} {k : Nat} {Ng : List Str} {params : Arguments} {body : Expr} {scope : Scope} {t : XK → TE} {p lpos pos : Pos} (D : DefAt X.K X.mg x st) (hg : Gl X x) (Sg : FnScope Ng [a] (defScope st))
    (hb : ∀ (kV doc pm : Value) (an : Option Addr) (cdv ct : Value) (us : List Value), us.length = 1 → bindArgs (PySem.W.fnOf x x (defArgs st) (defBody st) (defScope st) .none kV doc pm an cdv ct) ⟨us, []⟩ = pure ([a].zip us))
    (hNg : Ng[0]? = some a) (hva : Vis (defScope st) a) (hG : Gives X Ng x st a TT) (TB : LamX.TabB X.base X.mg c P) (hcode : X.env.code = .ref c) (hmT : (P, X.env.qual ++ "<lambda>") ∈ T) (hu : ∀ p ∈ T, p.1 = P → p.2 = X.env.qual ++ "<lambda>") (hr : Room (k + 2) X.A)
    (L : LamX.LamS X.env.scope scope)
    (hbody : ∀ (A : Around) (outer : List Env) (s : Shared) (H : Hp) (E : XK) (f c' : Addr), Room k (A.deeper (LamX.lamEnv X scope s.heap.objs.size f c')) → PE (LamX.lamCx X A outer s H E scope f c') body (t E))
    (hdef : defaultsOf params X.env = ([], []) := by rfl)
    (hbind : ∀ (q : Str) (cl : List (Str × Addr)) (pm cv ctv : Value), bindArgs (PySem.W.kla_fn "<lambda>" q params body scope cl pm cv ctv) ⟨[], []⟩ = pure [] := by intros; rfl)
    (hdb : (x == ("__debug__" : Str)) = false := by decide) (hd : (a == ("__debug__" : Str)) = false := by decide) (hcd : (a == ("__classdict__" : Str)) = false := by decide) :
    PE X (.Call (.Name x p) [.Lambda params body scope lpos] [] pos) (LamX.tLam T TT t) := by
  obtain ⟨g, fd, F, hm⟩ := D
  have kp := F.kp
  have bs := F.bindsN (ps := [a]) hb
  obtain ⟨oc, od, dV, kV, doc, pm, an, cdv, ct, osl, rfl, lk, hcd', _, _⟩ := F.ex
  exact LamX.pe_lamcall hg hm kp lk hcd' bs Sg hNg hva (hG g cdv) TB hcode hmT hu hr L hdef hbind hbody hdb hd hcd
end
/-- try: t = a() / except (A, B, C) as e: return h(e) / return ("told", t) -/
def TCaught (K : PySem.W.Frag) (cs : List Value) (sp : Addr × Obj → Sp) : (XK → Hp → VK → Prop) → Hp → VK → Prop := fun tl H Q =>
  tl (fun cls d H' => PySem.W.exmAny K cls cs = some true ∧ ∀ a oe, Zc cls d oe → (∃ vs, oe.data = .fields vs) → H' a = none → sp (a, oe) [.ref a] H' Q E0) H (fun v H' => ∀ t, H' t = none → Q (.ref t) (upd H' t (.tup [.str "told", v])))
theorem caught_gives {X : Cx} {x a t e h : Str} {st sth : Stmt} {A1 A2 A3 : Str} {c1 c2 c3 : Value} {k : Nat} {ps : List Str} {sp : Addr × Obj → Sp} {j : Nat} {p1 p2 p3 p4 p5 p6 p7 p8 p9 p10 p11 p12 p13 p14 p15 p16 p17 p18 : Pos} {x1 x2}
    (hN : [a, t, e].Nodup) (hbd : defBody st = [.Try [.Assign [.Name t p1] (.Call (.Name a p2) [] [] p3) p4] [.ExceptHandler (some (.Tuple [.Name A1 p5, .Name A2 p6, .Name A3 p7] x1 p8)) (some e) [.Return (some (.Call (.Name h p9) [.Name e p10] [] p11)) p12] p13] [] [] p14,
      .Return (some (.Tuple [.Constant (.str "told") j p15, .Name t p16] x2 p17)) p18])
    (ka : (defScope st).names.lookup a = some .local) (kt : (defScope st).names.lookup t = some .local) (ke : (defScope st).names.lookup e = some .local) (g1 : (defScope st).names.lookup A1 = some .globalImplicit) (g2 : (defScope st).names.lookup A2 = some .globalImplicit) (g3 : (defScope st).names.lookup A3 = some .globalImplicit)
    (gh : (defScope st).names.lookup h = some .globalImplicit) (m1 : X.mg A1 = some c1) (m2 : X.mg A2 = some c2) (m3 : X.mg A3 = some c3) (G : PromP X.prog X.w X.K X.mg X.base k h sth ps sp) (gd : X.A.guards = some []) (hr : Room (k + 1) X.A)
    (d1 : (A1 == ("__debug__" : Str)) = false := by decide) (d2 : (A2 == ("__debug__" : Str)) = false := by decide) (d3 : (A3 == ("__debug__" : Str)) = false := by decide) (d4 : (h == ("__debug__" : Str)) = false := by decide)
    (d5 : (e == ("__debug__" : Str)) = false := by decide) (d6 : (e == ("__classdict__" : Str)) = false := by decide) (d7 : (t == ("__debug__" : Str)) = false := by decide) (d8 : (t == ("__classdict__" : Str)) = false := by decide) :
    Gives X [a, t, e] x st a (TCaught X.K [c1, c2, c3] sp) := by
  intro g cdg f c' s H Q tl act hc hq
  rw [hbd]
  refine ⟨_, pss_cons (ps_tryA (X := (cxOf C8.CX0 X.prog X.w X.K X.mg X.base [a, t, e] x (defScope st) g cdg X.A X.stack s H C8.E0).nox) (Wout := fun _ _ _ _ => False)
    (tb := fun W D σ H => ∃ Ech : XK, (∀ cls d σ' H', Ech cls d H' → σ'.length = 3 → W cls d σ' H') ∧ σ[0]? = some (some (.ref f)) ∧ H c' = some (LamX.CodeO c' (X.env.qual ++ "<lambda>")) ∧ ∃ K : VK, (∀ v H', K v H' → D.nx (σ.set 1 (some v)) H') ∧ tl Ech H K)
    rfl rfl hN L2.takes0 (fun W pn xe tk _ => ?_)
    (ClOk.cons (i := 2) (test_tup g1 g2 g3 m1 m2 m3 d1 d2 d3) rfl ke (fun a' oe cls d pn _ _ => pss_one (ps_ret (pe_callE G gd ⟨?_, ?_⟩ gh rfl (pa_cons (pe_var (i := 2) rfl (.inl ke) d5 d6) pa_nil) d4))) .nil))
    (pss_one (ps_ret (pe_tup (pa_cons pe_str (pa_cons (pe_var (i := 1) rfl (.inl kt) d7 d8) pa_nil))))), ?_⟩
  · constructor
    intro pins s' σ H' D I ⟨Ech, hW, h1, h2, K, hK, h3⟩
    have hp := act _ pn xe Ech p2 p3 (takes_len tk) (fun cls d σ' H' z hl => hW cls d σ' H' z hl)
    exact (pss_one (ps_set (i := 1) (pos := p4) hN rfl (.inl kt) (pe_weak hp))).run pins s' σ H' D I ⟨K, hK, h1, h2, h3⟩
  · exact (hr.deeper _).dp
  · exact (hr.deeper _).un
  · refine ⟨_, fun cls d σ' H' z hl => ?_, rfl, hc, _, fun v H' z => ?_, hq⟩
    rotate_left
    · exact ⟨v, rfl, by show 2 ≤ sizeLine; decide, z⟩
    obtain ⟨z1, z2⟩ := z
    refine ⟨true, z1, fun _ a' oe hz hv na => ?_, fun z => Bool.noConfusion z⟩
    refine ⟨.ref a', ?_, z2 a' oe hz hv na⟩
    show (σ'.set 2 (some (.ref a')))[2]? = _
    rw [List.getElem?_set_self (by omega)]
/-- what a callee lets out of the lambda's body -/
theorem LamX_pass {X : Cx} {A : Around} {outer : List Env} {s : Shared} {H : Hp} {E : XK} {scope : Scope} {f c' : Addr} : Passes (L2.CX (LamX.lamCx X A outer s H E scope f c').prog (LamX.lamCx X A outer s H E scope f c').w) (LamX.lamCx X A outer s H E scope f c') E := passes_call (takes_of rfl rfl rfl rfl) (fun _ _ _ _ h => h)
theorem gl_lam {X : Cx} {A : Around} {outer : List Env} {s : Shared} {H : Hp} {E : XK} {scope : Scope} {f c' : Addr} {x : Str} (h : scope.names.lookup x = some .globalImplicit) : Gl (LamX.lamCx X A outer s H E scope f c') x := h
/-- a def of the text whose code object is known by its name -/
def DefC (K : PySem.W.Frag) (mg : Str → Option Value) (x : Str) (st : Stmt) : Prop := ∃ fd, FunD K x x (defArgs st) (defBody st) (defScope st) [] [] (He.fAd K (x, none)) fd ∧ mg x = some (.ref (He.fAd K (x, none)))
theorem PromG.ofT {P : Program} {w : World} {K : PySem.W.Frag} {mg : Str → Option Value} {base : Heap} {x : Str} {st : Stmt} {ps N : List Str} {sp : Sp} {k : Nat} (D : DefC K mg x st) (S : FnScope N ps (defScope st)) (len : ∀ vs H Q E, sp vs H Q E → vs.length = ps.length)
    (hb : ∀ (kV doc pm : Value) (an : Option Addr) (cdv ct : Value) (us : List Value), us.length = ps.length → bindArgs (PySem.W.fnOf x x (defArgs st) (defBody st) (defScope st) .none kV doc pm an cdv ct) ⟨us, []⟩ = pure (ps.zip us))
    (hbody : ∀ (f : Addr) (A : Around) (outer : List Env) (s : Shared) (H : Hp) (vs : List V) (Q : VK) (E : XK), Room k (A.deeper (envOfC x (defScope st) s.heap.objs.size f (.ref (He.codeOf K (x, none))))) → (A.deeper (envOfC x (defScope st) s.heap.objs.size f (.ref (He.codeOf K (x, none))))).guards = some [] → sp vs H Q E →
      ∃ t, PSs (cxOf CX0 P w K mg base N x (defScope st) f (.ref (He.codeOf K (x, none))) A outer s H E).nox (defBody st) t ∧ t { nx := fun _ H' => Q .non H', rt := Q } (start N vs) H) :
    PromG P w K mg base (k + 1) x st ps sp := by
  obtain ⟨fd, F, hm⟩ := D
  have key : ∀ cdv, (∃ (oc : Value) (od : Option Addr) (dV kV doc pm : Value) (an : Option Addr) (ct : Value) (osl : Array (Option Value)), K.lookup (He.fAd K (x, none)) = some ⟨oc, od, .func (PySem.W.fnOf x x (defArgs st) (defBody st) (defScope st) dV kV doc pm an cdv ct), osl⟩ ∧ PySem.W.codeIn K cdv x = true) → cdv = .ref (He.codeOf K (x, none)) := by
    rintro cdv ⟨oc, od, dV, kV, doc, pm, an, ct, osl, lk, hc⟩
    obtain ⟨c, rfl⟩ := He.codeIn_ref hc
    rw [He.codeOf_eq lk rfl]
  obtain ⟨c1, c2, c3, c4, c5, c6, c7, cdv, c9, c10, rfl, look, code, d1, d2⟩ := F.ex
  have e := key cdv ⟨_, _, _, _, _, _, _, _, _, look, code⟩
  subst e
  refine ⟨_, _, ⟨len, fun A outer s H args us vs Q E room gd e0 hbind rel want => ?_⟩, hm, F, F.bindsN hb⟩
  have old : ∀ b o, base.get? b = some o → s.heap.get? b = some o := fun b o e => (e0.bs b o e).1
  have inK : K.In s.heap := e0.mod.kin.keeps old
  have kinds : ∀ y ∈ ps.zip us, (defScope st).names.lookup y.1 = some .local ∨ ((defScope st).names.lookup y.1 = some .cell ∧ ((cellsFrom (s.heap.objs.size + 1) (defScope st).names []).lookup y.1).isSome = true) := by
    rintro ⟨n, v⟩ hy
    have hm : n ∈ ps := (List.of_mem_zip hy).1
    cases S.par n hm with
    | inl z => exact Or.inl z
    | inr z => exact Or.inr ⟨z, PySem.W.cellsFrom_some _ _ _ (.inl z)⟩
  obtain ⟨t, dt, rt⟩ := hbody _ A outer s H vs Q E (room.deeper _) gd want
  have dt := dt.nox
  refine codeAny_call_function room.depth (inK _ _ look) rfl S.co S.gen rfl (PySem.W.codeRec_of inK code) ?_
  refine hbind _ _ _ _ (wpAny_newFunctionEnv_cells S.kind kinds ?_)
  rintro _ rfl s1 ic
  refine ⟨(e0.mod.nolimit.keeps old).keeps ic.toInCall.keep, codeAny_func ?_⟩
  refine wpAny_mono (dt.run [] s1 (start N vs) H _ (inv_start S room.hd e0 (len _ _ _ _ want) rel ic) rt) ?_ (fun _ _ z => z)
  intro fl s' hs
  cases fl with
  | ret u => exact let ⟨v, _, H', J, rv, qv⟩ := hs; ⟨v, H', J.os, J.bare, J.base, J.hok, rv, qv⟩
  | next => exact let ⟨_, H', J, qv⟩ := hs; ⟨.non, H', J.os, J.bare, J.base, J.hok, rfl, qv⟩
  | brk => exact let ⟨_, _, _, qv⟩ := hs; False.elim qv
  | cont => exact let ⟨_, _, _, qv⟩ := hs; False.elim qv
end Sz
/-! error classes of the program by their promises; the table of all error classes -/
namespace Sz
open PySem PySem.Spec PyProof.Rows L2
/-- C(v) makes an error with the field f -/
structure PromE (P : Program) (w : World) (K : PySem.W.Frag) (mg : Str → Option Value) (base : Heap) (k : Nat) (C f : Str) : Prop where
  T : ErrC K (He.ga K C) (He.ma K (He.ga K C) "__init__") f
  mg_ : mg C = some (.ref (He.ga K C))
  ex : ∃ fd ps, FnOk P w K mg base CX0 k (He.ma K (He.ga K C) "__init__") fd ps (spErr K (He.ga K C) (He.ma K (He.ga K C) "__init__") f) ∧ Binds K fd ps []
theorem PromE.of {P : Program} {w : World} {K : PySem.W.Frag} {mg : Str → Option Value} {base : Heap} {C f q p0 p1 : Str} {st : Stmt} {a1 a2 a3 a4 : Pos} (T : ErrC K (He.ga K C) (He.ma K (He.ga K C) "__init__") f) (hm : mg C = some (.ref (He.ga K C))) (D : DefAtM K C "__init__" q st) (S : FnScope [p0, p1] [p0, p1] (defScope st))
    (hbd : defBody st = [.Assign [.Attribute (.Name p0 a1) f a2] (.Name p1 a3) a4]) (l0 : (defScope st).names.lookup p0 = some .local) (l1 : (defScope st).names.lookup p1 = some .local)
    (hb : ∀ (kV doc pm : Value) (an : Option Addr) (cdv ct : Value) (us : List Value), us.length = 2 → bindArgs (PySem.W.fnOf "__init__" q (defArgs st) (defBody st) (defScope st) .none kV doc pm an cdv ct) ⟨us, []⟩ = pure ([p0, p1].zip us))
    (d0 : (p0 == ("__debug__" : Str)) = false := by decide) (d1 : (p1 == ("__debug__" : Str)) = false := by decide) (e0 : (p0 == ("__classdict__" : Str)) = false := by decide) (e1 : (p1 == ("__classdict__" : Str)) = false := by decide) : PromE P w K mg base 1 C f := by
  obtain ⟨fd, F⟩ := D
  refine ⟨T, hm, fd, [p0, p1], F.ok (k := 0) S (fun vs H Q E h => ?_) (fun cdv A outer s H vs Q E hr h => ?_), F.bindsN (ps := [p0, p1]) hb⟩
  · obtain ⟨a, v, rfl, _⟩ := h
    rfl
  · obtain ⟨a, v, rfl, T', ha, k⟩ := h
    rw [hbd]
    exact ⟨_, pss_one (ps_errFld (pe_var (i := 0) rfl (.inl l0) d0 e0) (pe_var (i := 1) rfl (.inl l1) d1 e1)), v, rfl, .ref a, rfl, a, _, _, rfl, T', ha, fun dx h1 h2 => k dx h1 h2⟩
section
variable {X : Cx} {x f : Str} {e : Expr} {te : TE} {k : Nat} {p pos rpos : Pos} {W : WX}
/-- raise C(e) -/
theorem ps_raiseE (G : PromE X.prog X.w X.K X.mg X.base k x f) (hr : Room (k + 1) X.A) (hg : Gl X x) (tk : Takes X W) (he : PE X e te) (hc : X.calm = true := by rfl)
    (hdb : (x == ("__debug__" : Str)) = false := by decide) (hst : starEach [e] X.env = (false, eval e X.env) :: starEach [] X.env := by rfl) (hpl : (backTo pos (starEach [] X.env)).any (·.1) = false := by rfl) :
    PS X (.Raise (some (.Call (.Name x p) [e] [] pos)) none rpos) (fun _ σ H => te σ H fun v H1 => ∀ d, H1 d = none → W (.ref (He.ga X.K x)) (some d) σ (upd H1 d (.xd [(f, v)]))) := by
  obtain ⟨fd, ps, F, b⟩ := G.ex
  exact ps_raise hc tk (pmk_err G.T F b hr hg G.mg_ he hdb hst hpl)
end
/-- what a callee lets out, this def lets out -/
theorem passX {P : Program} {w : World} {K : PySem.W.Frag} {mg : Str → Option Value} {base : Heap} {N : List Str} {q : Str} {sc : Scope} {f : Addr} {cdv : Value} {A : Around} {outer : List Env} {s : Shared} {H : Hp} {E : XK} :
    Passes (L2.CX P w) (cxOf (L2.CX P w) P w K mg base N q sc f cdv A outer s H E) E := passes_call (takes_of rfl rfl rfl rfl) (fun _ _ _ _ h => h)
/-! ### facts by looking -/
/-- the built-in base: 0 ValueError, 1 LookupError, 2 ArithmeticError -/
def ebase : Nat → String
  | 0 => "ValueError"
  | 1 => "LookupError"
  | _ => "ArithmeticError"
def etail (b : Nat) : List Value := [.type (ebase b), .type "Exception", .type "BaseException", .type "object"]
def errCB (K : PySem.W.Frag) (b : Nat) (C : Addr) (f : Str) : Bool :=
  PySem.W.excInitIn K C (etail b) (ebase b ++ ".__new__") && (PySem.W.excOver K C (etail b) && (He.eqO (PySem.W.findIn K (.ref C) "__setattr__") (some (some (.builtin "object.__setattr__"))) && (He.eqO (PySem.W.takerIn K C f) (some none) &&
  (PySem.W.hasDictIn K C && (decide (PySem.W.subIn K (.ref C) (.type "BaseException") = some true) && (decide (PySem.W.typeIn K (.ref C) = some (.type "type")) && (PySem.W.keepIn K (.ref C) && (He.eqO (PySem.W.findIn K (.ref C) "__init__") (some (some (.ref (He.ma K C "__init__")))) &&
  decide (PySem.W.typeIn K (.ref (He.ma K C "__init__")) = some (.type "function"))))))))))
theorem errCB_ok {K : PySem.W.Frag} {b : Nat} {C : Addr} {f : Str} (h : errCB K b C f = true) : ErrC K C (He.ma K C "__init__") f := by
  obtain ⟨h1, h⟩ := He.ba h
  obtain ⟨h2, h⟩ := He.ba h
  obtain ⟨h3, h⟩ := He.ba h
  obtain ⟨h4, h⟩ := He.ba h
  obtain ⟨h5, h⟩ := He.ba h
  obtain ⟨h6, h⟩ := He.ba h
  obtain ⟨h7, h⟩ := He.ba h
  obtain ⟨h8, h⟩ := He.ba h
  obtain ⟨h9, h10⟩ := He.ba h
  refine ⟨?_, He.eqO_ok h3, He.eqO_ok h4, h5, of_decide_eq_true h6, of_decide_eq_true h7, h8, He.eqO_ok h9, of_decide_eq_true h10⟩
  match b, h1, h2 with
  | 0, h1, h2 => exact ⟨_, _, _, _, PySem.F.excBase_ValueError, PySem.F.store_ValueError, h1, h2⟩
  | 1, h1, h2 => exact ⟨_, _, _, _, PySem.F.excBase_LookupError, PySem.F.store_LookupError, h1, h2⟩
  | n + 2, h1, h2 => exact ⟨_, _, _, _, PySem.F.excBase_ArithmeticError, PySem.F.store_ArithmeticError, h1, h2⟩
/-- the words of all error classes -/
def ewords : List Str := ["NotAWrap", "NotAStack", "NotARoad", "InvalidKind", "InvalidBase", "InvalidLength", "InvalidNumber", "InvalidText", "InvalidRow", "InvalidNumbers", "InvalidWraps", "InvalidSeen", "InvalidDeeds", "NothingToPop", "NothingToUndo", "Busy", "TooFine", "TooManyWraps", "TooLong"]
def ew (i : Nat) : Str := ewords.getD i Str.empty
/-- of which base, by its place -/
def eb (i : Nat) : Nat := if i < 13 then 0 else if i < 16 then 1 else 2
def excCB (K : PySem.W.Frag) (D : Addr) : Bool := He.eqO (PySem.W.findIn K (.ref D) "__getattribute__") (some (some (.builtin "BaseException.__getattribute__"))) && (He.eqO (PySem.W.findIn K (.ref D) "__getattr__") (some none) && (decide (PySem.W.subIn K (.ref D) (.type "BaseException") = some true) && (PySem.W.hasDictIn K D &&
  (He.eqO (PySem.W.findIn K (.ref D) "__class__") (some (some (.builtin "object.__class__"))) && (He.eqO (PySem.W.specialIn K (.builtin "object.__class__") "__get__") (some (some (.builtin "getset_descriptor.__get__"))) && (decide (PySem.W.takesIn K (.builtin "object.__class__") = some true) && decide (PySem.W.mroIn K D (.type "object") = some true)))))))
theorem excCB_ok {K : PySem.W.Frag} {D : Addr} (h : excCB K D = true) : ExcC K D ∧ XfC K D := by
  obtain ⟨h1, h⟩ := He.ba h
  obtain ⟨h2, h⟩ := He.ba h
  obtain ⟨h3, h⟩ := He.ba h
  obtain ⟨h4, h⟩ := He.ba h
  obtain ⟨h5, h⟩ := He.ba h
  obtain ⟨h6, h⟩ := He.ba h
  obtain ⟨h7, h8⟩ := He.ba h
  exact ⟨⟨He.eqO_ok h1, He.eqO_ok h2, of_decide_eq_true h3, h4, He.eqO_ok h5, He.eqO_ok h6, of_decide_eq_true h7, of_decide_eq_true h8⟩, He.eqO_ok h1, He.eqO_ok h2, of_decide_eq_true h3, h4⟩
def ebs : List Str := ["Misfit", "Untimely", "Excess"]
/-- all that is asked of the error class at place i -/
def etabB (K : PySem.W.Frag) (i : Nat) : Bool := excCB K (He.ga K (ew i)) && ((List.range 19).all (fun j => decide (PySem.W.kitOne K (.ref (He.ga K (ew i))) (.ref (He.ga K (ew j))) = some (decide (i = j)))) &&
  ((List.range 3).all (fun j => decide (PySem.W.kitOne K (.ref (He.ga K (ew i))) (.ref (He.ga K (ebs.getD j Str.empty))) = some (decide (eb i = j))) && decide (PySem.W.kitOne K (.ref (He.ga K (ew i))) (.type (ebase j)) = some (decide (eb i = j)))) &&
  (([("value" : Str), "index", "limit"]).all (fun f => He.eqO (PySem.W.findIn K (.ref (He.ga K (ew i))) f) (some none)) && decide (PySem.W.exmAny K (.ref (He.ga K (ew i))) [.ref (He.ga K "Misfit"), .ref (He.ga K "Untimely"), .ref (He.ga K "Excess")] = some true))))
structure ErrTab (K : PySem.W.Frag) : Prop where
  exc : ∀ i < 19, ExcC K (He.ga K (ew i))
  xf : ∀ i < 19, XfC K (He.ga K (ew i))
  kit : ∀ i < 19, ∀ j < 19, PySem.W.kitOne K (.ref (He.ga K (ew i))) (.ref (He.ga K (ew j))) = some (decide (i = j))
  kb : ∀ i < 19, ∀ j < 3, PySem.W.kitOne K (.ref (He.ga K (ew i))) (.ref (He.ga K (ebs.getD j Str.empty))) = some (decide (eb i = j))
  ko : ∀ i < 19, ∀ j < 3, PySem.W.kitOne K (.ref (He.ga K (ew i))) (.type (ebase j)) = some (decide (eb i = j))
  no : ∀ i < 19, ∀ f ∈ [("value" : Str), "index", "limit"], PySem.W.findIn K (.ref (He.ga K (ew i))) f = some none
  any : ∀ i < 19, PySem.W.exmAny K (.ref (He.ga K (ew i))) [.ref (He.ga K "Misfit"), .ref (He.ga K "Untimely"), .ref (He.ga K "Excess")] = some true
theorem etab_ok {K : PySem.W.Frag} (h : (List.range 19).all (etabB K) = true) : ErrTab K := by
  have g : ∀ i < 19, etabB K i = true := fun i hi => List.all_eq_true.mp h i (List.mem_range.mpr hi)
  have k : ∀ i < 19, _ := fun i hi => He.ba (g i hi)
  refine ⟨fun i hi => (excCB_ok (He.ba (g i hi)).1).1, fun i hi => (excCB_ok (He.ba (g i hi)).1).2, fun i hi j hj => ?_, fun i hi j hj => ?_, fun i hi j hj => ?_, fun i hi f hf => ?_, fun i hi => ?_⟩
  · exact of_decide_eq_true (List.all_eq_true.mp (He.ba (He.ba (g i hi)).2).1 j (List.mem_range.mpr hj))
  · exact of_decide_eq_true (He.ba (List.all_eq_true.mp (He.ba (He.ba (He.ba (g i hi)).2).2).1 j (List.mem_range.mpr hj))).1
  · exact of_decide_eq_true (He.ba (List.all_eq_true.mp (He.ba (He.ba (He.ba (g i hi)).2).2).1 j (List.mem_range.mpr hj))).2
  · exact He.eqO_ok (List.all_eq_true.mp (He.ba (He.ba (He.ba (He.ba (g i hi)).2).2).2).1 f hf)
  · exact of_decide_eq_true (He.ba (He.ba (He.ba (He.ba (g i hi)).2).2).2).2
end Sz
/-! == by an own __eq__ that is promised to say True -/
namespace Sz
open PySem PySem.Spec PyProof.Rows L2
section
variable {X : Cx} {CX : CXT} {k : Nat} {C : Str} {ps : List Str} {R : Addr → Addr → Hp → Prop} {E : XK}
theorem rcG_insP (G : PromM X.prog X.w X.K X.mg X.base CX k C "__eq__" ps (spEq R)) (hx : Passes CX X E) : RcG X k (DIns (He.ga X.K C) R) := by
  obtain ⟨fd, F, b⟩ := G.ex
  exact rcG_ins F G.me.at_ G.me.fn b hx
theorem eqG_insP (G : PromM X.prog X.w X.K X.mg X.base CX k C "__eq__" ps (spEq R)) (hx : Passes CX X E) : EqG X k (DIns (He.ga X.K C) R) := by
  obtain ⟨fd, F, b⟩ := G.ex
  exact eqG_ins F G.me.at_ G.me.fn b hx
end
end Sz
/-! lists or tuples walked, a class with plain parameters, two tuples zipped -/
namespace Sz
open PySem PySem.Spec PyProof.Rows L2
section
variable {X : Cx} {tg l : Expr} {tl : TE}
/-- for x in s, s a list or a tuple -/
theorem pi_seq (hl : PE X l tl) : PI X tg l (fun σ H R => iList X.K tl σ H R ∨ iTup X.K tl σ H R) := by
  refine ⟨fun pins s σ H R I h => ?_⟩
  rcases h with h | h
  · exact (pi_list (tg := tg) hl).run pins s σ H R I h
  · exact (pi_tup (tg := tg) hl).run pins s σ H R I h
end
section
variable {K : PySem.W.Frag} {a b : Addr} {xs ys : List V} {n : Nat}
theorem walk_zipT (hn : n = min xs.length ys.length) : Walk (RZ.ItzT K a b) n (fun H => SqT K H a xs ∧ SqT K H b ys) (YPair (fun i => xs[i]?) (fun i => ys[i]?)) := by
  refine ⟨fun i H hi g => ?_, fun H g => ⟨xs, ys, g.1, g.2, by omega⟩, fun i H x H' hi g y => ?_⟩
  · have h1 : i < xs.length := by omega
    have h2 : i < ys.length := by omega
    exact ⟨xs, ys, xs[i], ys[i], g.1, g.2, List.getElem?_eq_getElem h1, List.getElem?_eq_getElem h2⟩
  · obtain ⟨T, x1, y1, e1, e2, e3, e4, e5⟩ := y
    exact ⟨T, x1, y1, e1, e2, e3, e4 xs g.1, e5 ys g.2⟩
end
section
variable {P : Program} {w : World} {K : PySem.W.Frag} {mg : Str → Option Value} {base : Heap}
/-- a class whose __init__ takes its parameters one by one -/
theorem PromC.plain {C q : Str} {st : Stmt} {N ps : List Str} {sp sp0 : Sp} {k : Nat} (mk : Mk K (He.ga K C) (He.ma K (He.ga K C) "__init__")) (hm : mg C = some (.ref (He.ga K C))) (D : DefAtM K C "__init__" q st) (S : FnScope N ps (defScope st))
    (len : ∀ vs H Q E, sp0 vs H Q E → vs.length = ps.length)
    (hb : ∀ (kV doc pm : Value) (an : Option Addr) (cdv ct : Value) (us : List Value), us.length = ps.length → bindArgs (PySem.W.fnOf "__init__" q (defArgs st) (defBody st) (defScope st) .none kV doc pm an cdv ct) ⟨us, []⟩ = pure (ps.zip us))
    (hbody : ∀ (f : Addr) (cdv : Value) (A : Around) (outer : List Env) (s : Shared) (H : Hp) (vs : List V) (Q : VK) (E : XK), Room k (A.deeper (envOfC q (defScope st) s.heap.objs.size f cdv)) → sp0 vs H Q E →
      ∃ t, PSs (cxOf CX0 P w K mg base N q (defScope st) f cdv A outer s H E).nox (defBody st) t ∧ t { nx := fun _ H' => Q .non H', rt := Q } (start N vs) H)
    (hsp : ∀ vs H Q E, sp vs H Q E → ∀ x dx, H x = none → H dx = none → dx ≠ x → sp0 (.ref x :: vs) (upd (upd H dx (.own x)) x (.ins (He.ga K C) dx [])) (fun u H2 => u = .non ∧ Q (.ref x) H2) E) :
    PromC P w K mg base CX0 (k + 1) C sp := by
  obtain ⟨fd, F⟩ := D
  have F1 : FnOk P w K mg base CX0 (k + 1) (He.ma K (He.ga K C) "__init__") fd ps sp0 := F.ok S len (fun cdv A outer s H vs Q E hr hs => by
    obtain ⟨t, h1, h2⟩ := hbody _ cdv A outer s H vs Q E hr hs
    exact ⟨t, h1.nox, h2⟩)
  refine ⟨mk, hm, _, F1.raw (F.bindsN hb) .nil, fun vs H Q E hs x dx hx hdx ne => ?_⟩
  rw [List.append_nil]
  exact hsp vs H Q E hs x dx hx hdx ne
end
end Sz
/-! what isinstance says of things of many kinds, own classes among them; methods that raise, methods in the suite that handles an error -/
namespace Sz
open PySem PySem.Spec PyProof.Rows L2
def btys : List String := ["int", "bool", "NoneType", "str", "list", "tuple", "dict", "float"]
structure KitTab (K : PySem.W.Frag) (Cs : List Str) : Prop where
  bt : ∀ T ∈ btys, ∀ C ∈ Cs, PySem.W.kitOne K (.type T) (.ref (He.ga K C)) = some false
  tb : ∀ C ∈ Cs, ∀ T ∈ btys, PySem.W.kitOne K (.ref (He.ga K C)) (.type T) = some false
  tt : ∀ C ∈ Cs, ∀ D ∈ Cs, PySem.W.kitOne K (.ref (He.ga K C)) (.ref (He.ga K D)) = some (decide (C = D))
def kitTabB (K : PySem.W.Frag) (Cs : List Str) : Bool :=
  (btys.all fun T => Cs.all fun C => decide (PySem.W.kitOne K (.type T) (.ref (He.ga K C)) = some false)) &&
  ((Cs.all fun C => btys.all fun T => decide (PySem.W.kitOne K (.ref (He.ga K C)) (.type T) = some false)) &&
  (Cs.all fun C => Cs.all fun D => decide (PySem.W.kitOne K (.ref (He.ga K C)) (.ref (He.ga K D)) = some (decide (C = D)))))
theorem kitTab_ok {K : PySem.W.Frag} {Cs : List Str} (h : kitTabB K Cs = true) : KitTab K Cs := by
  obtain ⟨h1, h⟩ := He.ba h
  obtain ⟨h2, h3⟩ := He.ba h
  exact ⟨fun T hT C hC => of_decide_eq_true (List.all_eq_true.mp (List.all_eq_true.mp h1 T hT) C hC), fun C hC T hT => of_decide_eq_true (List.all_eq_true.mp (List.all_eq_true.mp h2 C hC) T hT), fun C hC D hD => of_decide_eq_true (List.all_eq_true.mp (List.all_eq_true.mp h3 C hC) D hD)⟩
theorem tyX_same {K : PySem.W.Frag} {H H' : Hp} {v : V} {t : Value} (s : Same H H') (h : TyX K H v t) : TyX K H' v t := by
  cases h with
  | base h =>
    cases h with
    | non => exact .base .non
    | bl x => exact .base (.bl x)
    | int i => exact .base (.int i)
    | str x => exact .base (.str x)
    | flt x => exact .base (.flt x)
    | lst e => exact .base (.lst (s _ _ e))
    | frz e => exact .base (.frz (s _ _ e))
    | tup e => exact .base (.tup (s _ _ e))
    | dK e => exact .base (.dK (s _ _ e))
    | dT e => exact .base (.dT (s _ _ e))
    | ins e a b c d f => exact .base (.ins (s _ _ e) a b c d f)
  | byt b => exact .byt b
  | set e => exact .set (s _ _ e)
  | kList e c => exact .kList e c
  | kTuple e c => exact .kTuple e c
  | kDict e c => exact .kDict e c
  | fTuple e => exact .fTuple (s _ _ e)
  | fDict e => exact .fDict (s _ _ e)
section
variable {P : Program} {w : World} {K : PySem.W.Frag} {mg : Str → Option Value} {base : Heap}
/-- a method that may raise -/
theorem PromM.ofX {C m q : Str} {st : Stmt} {ps N : List Str} {sp : Sp} {k : Nat} (cl : Cls K (He.ga K C)) (me : Meth K (He.ga K C) m (He.ma K (He.ga K C) m)) (D : DefAtM K C m q st) (S : FnScope N ps (defScope st)) (len : ∀ vs H Q E, sp vs H Q E → vs.length = ps.length)
    (hb : ∀ (kV doc pm : Value) (an : Option Addr) (cdv ct : Value) (us : List Value), us.length = ps.length → bindArgs (PySem.W.fnOf m q (defArgs st) (defBody st) (defScope st) .none kV doc pm an cdv ct) ⟨us, []⟩ = pure (ps.zip us))
    (hbody : ∀ (f : Addr) (cdv : Value) (A : Around) (outer : List Env) (s : Shared) (H : Hp) (vs : List V) (Q : VK) (E : XK), Room k (A.deeper (envOfC q (defScope st) s.heap.objs.size f cdv)) → sp vs H Q E →
      ∃ t, PSs (cxOf (L2.CX P w) P w K mg base N q (defScope st) f cdv A outer s H E) (defBody st) t ∧ t { nx := fun _ H' => Q .non H', rt := Q } (start N vs) H) :
    PromM P w K mg base (L2.CX P w) (k + 1) C m ps sp := by
  obtain ⟨fd, F⟩ := D
  exact ⟨cl, me, fd, F.ok S len (fun cdv A outer s H vs Q E hr hs => hbody _ cdv A outer s H vs Q E hr hs), F.bindsN hb⟩
end
/-! ### a method called in the suite that handles an error -/
structure PromMP (P : Program) (w : World) (K : PySem.W.Frag) (mg : Str → Option Value) (base : Heap) (k : Nat) (C m : Str) (ps : List Str) (sp : Sp) : Prop where
  cl : Cls K (He.ga K C)
  me : Meth K (He.ga K C) m (He.ma K (He.ga K C) m)
  ex : ∃ fd, FnP P w K mg base k (He.ma K (He.ga K C) m) fd ps (fun _ => sp) ∧ Binds K fd ps []
theorem PromMP.of {P : Program} {w : World} {K : PySem.W.Frag} {mg : Str → Option Value} {base : Heap} {C m q : Str} {st : Stmt} {ps N : List Str} {sp : Sp} {k : Nat} (cl : Cls K (He.ga K C)) (me : Meth K (He.ga K C) m (He.ma K (He.ga K C) m)) (D : DefAtM K C m q st) (S : FnScope N ps (defScope st)) (len : ∀ vs H Q E, sp vs H Q E → vs.length = ps.length)
    (hb : ∀ (kV doc pm : Value) (an : Option Addr) (cdv ct : Value) (us : List Value), us.length = ps.length → bindArgs (PySem.W.fnOf m q (defArgs st) (defBody st) (defScope st) .none kV doc pm an cdv ct) ⟨us, []⟩ = pure (ps.zip us))
    (hbody : ∀ (f : Addr) (cdv : Value) (A : Around) (outer : List Env) (s : Shared) (H : Hp) (vs : List V) (Q : VK) (E : XK) (p : Addr × Obj), L2H.RoomH k (A.deeper (envOfC q (defScope st) s.heap.objs.size f cdv)) → (A.deeper (envOfC q (defScope st) s.heap.objs.size f cdv)).guards = some [] → sp vs H Q E →
      ∃ t, PSs (L2H.cxH CX0 P w K mg base N q (defScope st) f cdv A outer s H E p).nox (defBody st) t ∧ t { nx := fun _ H' => Q .non H', rt := Q } (start N vs) H) :
    PromMP P w K mg base (k + 1) C m ps sp := by
  obtain ⟨fd, F⟩ := D
  exact ⟨cl, me, fd, fnP_of F S (fun p vs H Q E h => len vs H Q E h) (fun cdv A outer s H vs Q E p hr hg hs => hbody _ cdv A outer s H vs Q E p hr hg hs), F.bindsN hb⟩
section
variable {X : Cx} {k : Nat} {C : Str} {ps : List Str} {sp : Sp} {a : Addr} {oe : Obj}
/-- repr(x) by an own __repr__, while an error is handled -/
theorem cr_reprOP (G : PromMP X.prog X.w X.K X.mg X.base k C "__repr__" ps sp) (gd : X.A.guards = some []) (hr : L2H.RoomH (k + 1) X.A) (hp : (a, oe) ∈ X.pn) (hs : X.stack = X.env :: X.outer) :
    CallR X (.builtin "repr") (fun xs H Q => ∃ p dx fs, xs = [.ref p] ∧ H p = some (.ins (He.ga X.K C) dx fs) ∧ sp [.ref p] H (fun v H2 => ∃ y : Str, v = .str y ∧ Q (.str y) H2) E0) := by
  intro pins s σ H xs us Q I r h
  obtain ⟨p, dx, fs, rfl, hpp, h⟩ := h
  obtain ⟨u, rfl, ru⟩ := vals1 r
  obtain rfl : u = Value.ref p := ru
  obtain ⟨m1, O1, _⟩ := ins_get I.hok hpp
  obtain ⟨od1, J1, _⟩ := O1.look
  obtain ⟨m, hF⟩ := I.fr
  obtain ⟨fd, F, b⟩ := G.ex
  have pin : L2H.PinOk X.stack H s (a, oe) := by
    obtain ⟨p1, p2, p3, p4, p5⟩ := I.pin (a, oe) (List.mem_append_left _ hp)
    refine ⟨p1, p2, fun z => ?_, p5⟩
    rw [hs] at z
    obtain ⟨en, hen, q⟩ := List.mem_filterMap.mp z
    rcases List.mem_cons.mp hen with z | z
    · subst z
      have nf := I.ok.stk
      rcases nf with nf | ⟨_, nf⟩
      · have nf : X.stack = X.outer := nf
        rw [hs] at nf
        exact absurd (congrArg List.length nf) (by simp)
      · have nf : X.env.frame = some X.env.locals := nf
        rw [nf] at q
        exact p3 (Option.some.inj q).symm
    · exact p4 (List.mem_filterMap.mpr ⟨en, z, q⟩)
  have e0 : Env0 X.prog X.w X.K X.mg X.base X.A.in1 X.stack s H := by
    have e := I.env0
    exact ⟨e.frames, e.mod, e.bs, e.bsz, e.funs, e.frf, e.hok, e.bare⟩
  have hl := F.len (a, oe) _ _ _ _ h
  refine PySem.W.repr_K (by have := hr.un; show X.A.units + 1 < cLine; omega) hF I.ok.mod.kin J1 G.me.at_ G.me.fn ?_
  have run : wpAny (model X.prog X.w) X.A.in1 (call (.ref (He.ma X.K (He.ga X.K C) "__repr__")) [.ref p]) (EP X pins σ (fun v H2 => ∃ y : Str, v = .str y ∧ Q (.str y) H2)) X.xe s := by
    refine wpAny_call (codeAny_mono (F.run X.A.in1 X.stack s H ⟨[.ref p], []⟩ [.ref p] [.ref p] _ E0 (a, oe) ⟨by have := hr.dp; show X.A.depth + 3 * k + 5 < _; omega, by have := hr.un; show X.A.units + 1 + 16 * k + 200 < _; omega⟩ gd pin e0 (by
      have := b s [.ref p] I.kIn (by simpa using hl)
      simpa using this) (.cons rfl .nil) h) fun rr s' hq => ?_)
    cases rr with
    | error e => exact False.elim hq
    | ok fl =>
      cases fl with
      | ret v =>
        obtain ⟨z, H', I', rz, q⟩ := I.after hq
        exact ⟨z, H', I', rz, q⟩
      | next => exact False.elim hq
      | brk => exact False.elim hq
      | cont => exact False.elim hq
  exact wpAny_mono run (fun v s' z => strBack_of z) fun _ _ z => z
end
/-! ### what follows a statement, said once -/
def tMid (t : TS) : TS := fun D σ H => ∃ P : L2.St → Hp → Prop, (∀ σ' H', P σ' H' → D.nx σ' H') ∧ t { D with nx := P } σ H
theorem ps_mid {X : Cx} {s : Stmt} {t : TS} (h : PS X s t) : PS X s (tMid t) := by
  refine ⟨fun pins s0 σ H D I ⟨P, hP, ht⟩ => wpAny_mono (h.run pins s0 σ H { D with nx := P } I ht) (fun fl s' z => ?_) fun _ _ z => z⟩
  cases fl with
  | next => exact let ⟨σ', H', J, q⟩ := z; ⟨σ', H', J, hP σ' H' q⟩
  | ret u => exact z
  | brk => exact z
  | cont => exact z
end Sz
/-! a lambda handed to a def that tells the number and the field of what it raises, or what it returns -/
namespace Sz
open PySem PySem.Spec PyProof.Rows L2
def TTold (K : PySem.W.Frag) (cs : List Value) (sp1 sp2 : Addr × Obj → Sp) : (XK → Hp → VK → Prop) → Hp → VK → Prop := fun tl H Q =>
  tl (fun cls d H' => PySem.W.exmAny K cls cs = some true ∧ ∀ a oe, Zc cls d oe → (∃ vs, oe.data = .fields vs) → H' a = none →
      sp1 (a, oe) [.ref a] H' (fun v H2 => sp2 (a, oe) [.ref a, v] H2 (fun u H3 => ∀ l, H3 l = none → Q (.ref l) (upd H3 l (.lst [v, u]))) E0) E0) H
    (fun v H' => ∃ z, Shw K H' v z ∧ ∀ l, H' l = none → Q (.ref l) (upd H' l (.lst [.int (-2), .str z])))
theorem told_gives {X : Cx} {x a t e i h1 h2 : Str} {st st1 st2 : Stmt} {A1 A2 A3 : Str} {c1 c2 c3 : Value} {k : Nat} {ps1 ps2 : List Str} {sp1 sp2 : Addr × Obj → Sp} {p1 p2 p3 p4 p5 p6 p7 p8 p9 p10 p11 p12 p13 p14 p15 p16 p17 p18 p19 p20 p21 p22 p23 p24 p25 p26 p27 p28 p29 : Pos} {x1 j1}
    (hN : [a, t, e, i].Nodup) (hbd : defBody st = [.Try [.Assign [.Name t p1] (.Call (.Name a p2) [] [] p3) p4] [.ExceptHandler (some (.Tuple [.Name A1 p5, .Name A2 p6, .Name A3 p7] x1 p8)) (some e)
        [.Assign [.Name i p9] (.Call (.Name h1 p10) [.Name e p11] [] p12) p13, .Return (some (.List [.Name i p14, .Call (.Name h2 p15) [.Name e p16, .Name i p17] [] p18] p19)) p20] p21] [] [] p22,
      .Return (some (.List [.UnaryOp .USub (.Constant (.int 2) j1 p23) p24, .Call (.Name "repr" p25) [.Name t p26] [] p27] p28)) p29])
    (ka : (defScope st).names.lookup a = some .local) (kt : (defScope st).names.lookup t = some .local) (ke : (defScope st).names.lookup e = some .local) (ki : (defScope st).names.lookup i = some .local) (g1 : (defScope st).names.lookup A1 = some .globalImplicit) (g2 : (defScope st).names.lookup A2 = some .globalImplicit) (g3 : (defScope st).names.lookup A3 = some .globalImplicit)
    (gh1 : (defScope st).names.lookup h1 = some .globalImplicit) (gh2 : (defScope st).names.lookup h2 = some .globalImplicit) (gr : (defScope st).names.lookup ("repr" : Str) = some .globalImplicit) (m1 : X.mg A1 = some c1) (m2 : X.mg A2 = some c2) (m3 : X.mg A3 = some c3) (mr : X.mg "repr" = none)
    (G1 : PromP X.prog X.w X.K X.mg X.base k h1 st1 ps1 sp1) (G2 : PromP X.prog X.w X.K X.mg X.base k h2 st2 ps2 sp2) (gd : X.A.guards = some []) (hr : Room (k + 1) X.A)
    (d1 : (A1 == ("__debug__" : Str)) = false := by decide) (d2 : (A2 == ("__debug__" : Str)) = false := by decide) (d3 : (A3 == ("__debug__" : Str)) = false := by decide) (d4 : (h1 == ("__debug__" : Str)) = false := by decide) (d4' : (h2 == ("__debug__" : Str)) = false := by decide)
    (d5 : (e == ("__debug__" : Str)) = false := by decide) (d6 : (e == ("__classdict__" : Str)) = false := by decide) (d7 : (t == ("__debug__" : Str)) = false := by decide) (d8 : (t == ("__classdict__" : Str)) = false := by decide)
    (d9 : (i == ("__debug__" : Str)) = false := by decide) (d10 : (i == ("__classdict__" : Str)) = false := by decide) :
    Gives X [a, t, e, i] x st a (TTold X.K [c1, c2, c3] sp1 sp2) := by
  intro g cdg f c' s H Q tl act hc hq
  rw [hbd]
  have hu : ∀ env, (X.A.deeper env).units + 64 < cLine := fun env => by have := (hr.deeper env).un; omega
  refine ⟨_, pss_cons (ps_tryA (X := (cxOf C8.CX0 X.prog X.w X.K X.mg X.base [a, t, e, i] x (defScope st) g cdg X.A X.stack s H C8.E0).nox) (Wout := fun _ _ _ _ => False)
    (tb := fun W D σ H => ∃ Ech : XK, (∀ cls d σ' H', Ech cls d H' → σ'.length = 4 → W cls d σ' H') ∧ σ[0]? = some (some (.ref f)) ∧ H c' = some (LamX.CodeO c' (X.env.qual ++ "<lambda>")) ∧ ∃ K : VK, (∀ v H', K v H' → D.nx (σ.set 1 (some v)) H') ∧ tl Ech H K)
    rfl rfl hN L2.takes0 (fun W pn xe tk _ => ?_)
    (ClOk.cons (i := 2) (test_tup g1 g2 g3 m1 m2 m3 d1 d2 d3) rfl ke (fun a' oe cls d pn _ _ =>
      pss_cons (ps_set (i := 3) hN rfl (.inl ki) (pe_weak (pe_callE G1 gd ⟨?_, ?_⟩ gh1 rfl (pa_cons (pe_var (i := 2) rfl (.inl ke) d5 d6) pa_nil) d4)))
        (pss_one (ps_ret (pe_lst (pa_cons (pe_var (i := 3) rfl (.inl ki) d9 d10) (pa_cons (pe_weak (pe_callE G2 gd ⟨?_, ?_⟩ gh2 rfl (pa_cons (pe_var (i := 2) rfl (.inl ke) d5 d6) (pa_cons (pe_var (i := 3) rfl (.inl ki) d9 d10) pa_nil)) d4')) pa_nil)))))) .nil))
    (pss_one (ps_ret (pe_lst (pa_cons (pe_un un_neg pe_int) (pa_cons (pe_callB (cr_reprW gd (hu _)) gr mr (by decide +kernel) (pa_cons (pe_var (i := 1) rfl (.inl kt) d7 d8) pa_nil)) pa_nil))))), ?_⟩
  · constructor
    intro pins s' σ H' D I ⟨Ech, hW, h1, h2, K, hK, h3⟩
    have hp := act _ pn xe Ech p2 p3 (takes_len tk) (fun cls d σ' H' z hl => hW cls d σ' H' z hl)
    exact (pss_one (ps_set (i := 1) (pos := p4) hN rfl (.inl kt) (pe_weak hp))).run pins s' σ H' D I ⟨K, hK, h1, h2, h3⟩
  · exact (hr.deeper _).dp
  · exact (hr.deeper _).un
  · exact (hr.deeper _).dp
  · exact (hr.deeper _).un
  · refine ⟨_, fun cls d σ' H' z hl => ?_, rfl, hc, _, fun v H' z => ?_, hq⟩
    rotate_left
    · obtain ⟨z, hz, k⟩ := z
      exact ⟨_, rfl, ⟨v, rfl, v, z, rfl, hz, (by show 2 ≤ sizeLine; decide), fun l hl => k l hl⟩⟩
    obtain ⟨z1, z2⟩ := z
    refine ⟨true, z1, fun _ a' oe hz hv na => ?_, fun z => Bool.noConfusion z⟩
    have e0 : (σ'.set 2 (some (.ref a')))[2]? = some (some (.ref a')) := by
      rw [List.getElem?_set_self (by omega)]
    refine ⟨fun v H2 => sp2 (a', oe) [.ref a', v] H2 (fun u H3 => ∀ l, H3 l = none → Q (.ref l) (upd H3 l (.lst [v, u]))) E0, fun v H2 z => ?_, ⟨_, e0, z2 a' oe hz hv na⟩⟩
    have e1 : ((σ'.set 2 (some (.ref a'))).set 3 (some v))[3]? = some (some v) := by
      rw [List.getElem?_set_self (by rw [List.length_set]; omega)]
    have e2 : ((σ'.set 2 (some (.ref a'))).set 3 (some v))[2]? = some (some (.ref a')) := by
      rw [List.getElem?_set_ne (by decide)]
      exact e0
    refine ⟨_, e1, fun u H3 => ∀ l, H3 l = none → Q (.ref l) (upd H3 l (.lst [v, u])), fun u H3 z3 => ?_, _, e2, _, e1, z⟩
    exact ⟨(by show 2 ≤ sizeLine; decide), fun l hl => z3 l hl⟩
end Sz
/-! a lambda handed to a def whose clauses tell the word, the field and the bases of what it raises -/
namespace Sz
open PySem PySem.Spec PyProof.Rows L2
/-- a clause: the class, its field, its own base, its built-in base -/
structure Cl1 where
  w : Str
  f : Str
  B : Str
  b : String
deriving DecidableEq
structure OutTab (K : PySem.W.Frag) (cs : List Cl1) : Prop where
  exc : ∀ c ∈ cs, ExcC K (He.ga K c.w)
  xf : ∀ c ∈ cs, XfC K (He.ga K c.w)
  ex : ∀ c ∈ cs, ∀ c' ∈ cs, PySem.W.exmAny K (.ref (He.ga K c.w)) [.ref (He.ga K c'.w)] = some (decide (c = c'))
  k1 : ∀ c ∈ cs, PySem.W.kitOne K (.ref (He.ga K c.w)) (.ref (He.ga K c.B)) = some true
  k2 : ∀ c ∈ cs, PySem.W.kitOne K (.ref (He.ga K c.w)) (.type c.b) = some true
  no : ∀ c ∈ cs, PySem.W.findIn K (.ref (He.ga K c.w)) c.f = some none
def outB (K : PySem.W.Frag) (cs : List Cl1) (c : Cl1) : Bool := excCB K (He.ga K c.w) && (cs.all (fun c' => decide (PySem.W.exmAny K (.ref (He.ga K c.w)) [.ref (He.ga K c'.w)] = some (decide (c = c')))) &&
  (decide (PySem.W.kitOne K (.ref (He.ga K c.w)) (.ref (He.ga K c.B)) = some true) && (decide (PySem.W.kitOne K (.ref (He.ga K c.w)) (.type c.b) = some true) && He.eqO (PySem.W.findIn K (.ref (He.ga K c.w)) c.f) (some none))))
theorem out_ok {K : PySem.W.Frag} {cs : List Cl1} (h : cs.all (outB K cs) = true) : OutTab K cs := by
  have g : ∀ c ∈ cs, outB K cs c = true := fun c hc => List.all_eq_true.mp h c hc
  refine ⟨fun c hc => (excCB_ok (He.ba (g c hc)).1).1, fun c hc => (excCB_ok (He.ba (g c hc)).1).2, fun c hc c' hc' => ?_, fun c hc => ?_, fun c hc => ?_, fun c hc => ?_⟩
  · exact of_decide_eq_true (List.all_eq_true.mp (He.ba (He.ba (g c hc)).2).1 c' hc')
  · exact of_decide_eq_true (He.ba (He.ba (He.ba (g c hc)).2).2).1
  · exact of_decide_eq_true (He.ba (He.ba (He.ba (He.ba (g c hc)).2).2).2).1
  · exact He.eqO_ok (He.ba (He.ba (He.ba (He.ba (g c hc)).2).2).2).2
def clO (K : PySem.W.Frag) (i : Nat) (c : Cl1) : Clause := ⟨[.ref (He.ga K c.w)], i, fun a oe _ _ => tRet (tLst (tCons (tC (.str c.w)) (tCons (tXfP K a oe c.f (tVar i)) (tCons (tAndV (tCB (rIsP K a oe) (tCons (tVar i) (tCons (tC (.ref (He.ga K c.B))) tNil))) (tCB (rIsP K a oe) (tCons (tVar i) (tCons (tC (.ty c.b)) tNil)))) tNil))))⟩
theorem wcl_out {K : PySem.W.Frag} {cs : List Cl1} (T : OutTab K cs) {Wout : WX} {D : Ends} {i : Nat} {σ : L2.St} {H : Hp} {c : Cl1} {dd : Addr} {v : V} (hc : c ∈ cs) (hd : H dd = some (.xd [(c.f, v)])) (hi : i < σ.length)
    (k : ∀ l, H l = none → D.rt (.ref l) (upd H l (.lst [.str c.w, v, .bl true]))) : ∀ cs' : List Cl1, (∀ x ∈ cs', x ∈ cs) → c ∈ cs' → wCl K Wout D (cs'.map (clO K i)) (.ref (He.ga K c.w)) (some dd) σ H
  | [], _, h => by cases h
  | x :: r, hs, h => by
    have hx := hs x (.head _)
    refine ⟨decide (c = x), T.ex c hc x hx, fun e a oe hz hv na => ?_, fun e => ?_⟩
    · have e : c = x := of_decide_eq_true e
      subst e
      have hg : (σ.set i (some (.ref a)))[i]? = some (some (.ref a)) := by
        rw [List.getElem?_set_self hi]
      have hdn : oe.dict = none ∨ ∃ (d : Addr) (fs : List (Str × V)), oe.dict = some d ∧ H d = some (.xd fs) := .inr ⟨dd, _, hz.2, hd⟩
      have lk : ([(c.f, v)] : List (Str × V)).lookup c.f = some v := by simp
      refine ⟨_, hg, rfl, _, dd, _, v, hz.1, hz.2, hv, T.xf c hc, T.no c hc, hd, lk, ?_⟩
      refine ⟨_, hg, .ref (He.ga K c.B), _, _, true, rfl, fun _ r => r, hz.1, T.exc c hc, hv, hdn, T.k1 c hc, _, rfl, ?_⟩
      rw [if_pos rfl]
      exact ⟨_, hg, .ty c.b, _, _, true, rfl, fun _ r => r, hz.1, T.exc c hc, hv, hdn, T.k2 c hc, (by show 3 ≤ sizeLine; decide), fun l hl => k l hl⟩
    · have ne : c ≠ x := of_decide_eq_false e
      exact wcl_out T hc hd hi k r (fun y hy => hs y (.tail _ hy)) (by
        cases h with
        | head => exact absurd rfl ne
        | tail _ h => exact h)
def TOut (K : PySem.W.Frag) (cs : List Cl1) : (XK → Hp → VK → Prop) → Hp → VK → Prop := fun tl H Q =>
  tl (fun cls d H' => ∃ c ∈ cs, cls = .ref (He.ga K c.w) ∧ ∃ dd v, d = some dd ∧ H' dd = some (.xd [(c.f, v)]) ∧ ∀ l, H' l = none → Q (.ref l) (upd H' l (.lst [.str c.w, v, .bl true]))) H
    (fun v H' => ∀ l, H' l = none → Q (.ref l) (upd H' l (.lst [.str "had", v])))
theorem out_gives {X : Cx} {x a t e : Str} {st : Stmt} {cs : List Cl1} {h0 : ExceptHandler} {hds : List ExceptHandler} {p1 p2 p3 p4 p5 p6 p7 p8 p9 : Pos} {j1}
    (hN : [a, t, e].Nodup) (hbd : defBody st = [.Try [.Assign [.Name t p1] (.Call (.Name a p2) [] [] p3) p4] (h0 :: hds) [] [] p5, .Return (some (.List [.Constant (.str "had") j1 p6, .Name t p7] p8)) p9])
    (ka : (defScope st).names.lookup a = some .local) (kt : (defScope st).names.lookup t = some .local) (T : OutTab X.K cs)
    (hcl : ∀ (g : Addr) (cdg : Value) (s : Shared) (H : Hp), ClOk (cxOf C8.CX0 X.prog X.w X.K X.mg X.base [a, t, e] x (defScope st) g cdg X.A X.stack s H C8.E0).nox (h0 :: hds) (cs.map (clO X.K 2)))
    (d7 : (t == ("__debug__" : Str)) = false := by decide) (d8 : (t == ("__classdict__" : Str)) = false := by decide) :
    Gives X [a, t, e] x st a (TOut X.K cs) := by
  intro g cdg f c' s H Q tl act hc hq
  rw [hbd]
  refine ⟨_, pss_cons (ps_tryA (X := (cxOf C8.CX0 X.prog X.w X.K X.mg X.base [a, t, e] x (defScope st) g cdg X.A X.stack s H C8.E0).nox) (Wout := fun _ _ _ _ => False)
    (tb := fun W D σ H => ∃ Ech : XK, (∀ cls d σ' H', Ech cls d H' → σ'.length = 3 → W cls d σ' H') ∧ σ[0]? = some (some (.ref f)) ∧ H c' = some (LamX.CodeO c' (X.env.qual ++ "<lambda>")) ∧ ∃ K : VK, (∀ v H', K v H' → D.nx (σ.set 1 (some v)) H') ∧ tl Ech H K)
    rfl rfl hN L2.takes0 (fun W pn xe tk _ => ?_) (hcl g cdg s H))
    (pss_one (ps_ret (pe_lst (pa_cons pe_str (pa_cons (pe_var (i := 1) rfl (.inl kt) d7 d8) pa_nil))))), ?_⟩
  · constructor
    intro pins s' σ H' D I ⟨Ech, hW, h1, h2, K, hK, h3⟩
    have hp := act _ pn xe Ech p2 p3 (takes_len tk) (fun cls d σ' H' z hl => hW cls d σ' H' z hl)
    exact (pss_one (ps_set (i := 1) (pos := p4) hN rfl (.inl kt) (pe_weak hp))).run pins s' σ H' D I ⟨K, hK, h1, h2, h3⟩
  · refine ⟨_, fun cls d σ' H' z hl => ?_, rfl, hc, _, fun v H' z => ?_, hq⟩
    rotate_left
    · exact ⟨v, rfl, (by show 2 ≤ sizeLine; decide), fun l hl => z l hl⟩
    obtain ⟨c, hcm, rfl, dd, v, rfl, hd, k⟩ := z
    exact wcl_out T hcm hd (by omega) k cs (fun _ h => h) hcm
end Sz
/-! constructors that raise -/
namespace Sz
open PySem PySem.Spec PyProof.Rows L2
section
variable {P : Program} {w : World} {K : PySem.W.Frag} {mg : Str → Option Value} {base : Heap}
theorem PromC.starX {C q p0 p1 pv : Str} {st : Stmt} {N : List Str} {sp sp0 : Sp} {k : Nat} (mk : Mk K (He.ga K C) (He.ma K (He.ga K C) "__init__")) (hm : mg C = some (.ref (He.ga K C))) (D : DefAtM K C "__init__" q st) (S : FnScope N [p0, p1, pv] (defScope st))
    (h0 : ∀ (kV doc pm : Value) (an : Option Addr) (cdv ct a b : Value), bindArgs (PySem.W.fnOf "__init__" q (defArgs st) (defBody st) (defScope st) .none kV doc pm an cdv ct) ⟨[a, b], []⟩ = (newTuple [] >>= fun t => pure [(p0, a), (p1, b), (pv, t)]))
    (h1 : ∀ (kV doc pm : Value) (an : Option Addr) (cdv ct a b r : Value) (rs : List Value), bindArgs (PySem.W.fnOf "__init__" q (defArgs st) (defBody st) (defScope st) .none kV doc pm an cdv ct) ⟨a :: b :: r :: rs, []⟩ = (newTuple (r :: rs) >>= fun t => pure [(p0, a), (p1, b), (pv, t)]))
    (hbody : ∀ (f : Addr) (cdv : Value) (A : Around) (outer : List Env) (s : Shared) (H : Hp) (vs : List V) (Q : VK) (E : XK), Room k (A.deeper (envOfC q (defScope st) s.heap.objs.size f cdv)) → sp0 vs H Q E →
      ∃ t, PSs (cxOf (L2.CX P w) P w K mg base N q (defScope st) f cdv A outer s H E) (defBody st) t ∧ t { nx := fun _ H' => Q .non H', rt := Q } (start N vs) H)
    (hsp : ∀ vs H Q E, sp vs H Q E → ∃ v rest, vs = v :: rest ∧ rest.length ≤ sizeLine ∧ ∀ x dx p, H x = none → H dx = none → dx ≠ x → p ≠ x → p ≠ dx → H p = none →
      sp0 [.ref x, v, .ref p] (upd (upd (upd H dx (.own x)) x (.ins (He.ga K C) dx [])) p (.tup rest)) (fun u H2 => u = .non ∧ Q (.ref x) H2) E) :
    PromC P w K mg base (L2.CX P w) (k + 1) C sp := by
  obtain ⟨fd, F⟩ := D
  obtain ⟨oc, od, dV, kV, doc, pm, an, cdv, ct, osl, rfl, lk, hcd, hD, hK⟩ := F.ex
  rcases hD with ⟨_, rfl⟩ | ⟨e, _⟩
  · refine ⟨mk, hm, _, StX.fn_star (ps := [p0, p1]) (pv := pv) (sp := sp0) lk hcd S StX.cxUp (StX.bind_star2 (B := fun us => bindArgs _ ⟨us, []⟩) (fun a b => h0 kV doc pm an cdv ct a b) fun a b r rs => h1 kV doc pm an cdv ct a b r rs) (fun A outer s H vs Q E hr hs => hbody _ cdv A outer s H vs Q E hr hs), fun vs H Q E hs x dx hx hdx ne => ?_⟩
    obtain ⟨v, rest, rfl, hl, hq⟩ := hsp vs H Q E hs
    refine ⟨[.ref x, v], rest, rfl, rfl, hl, fun p hp => ?_⟩
    have nx : p ≠ x := fun z => by rw [z, upd_same] at hp; cases hp
    rw [upd_ne nx] at hp
    have nd : p ≠ dx := fun z => by rw [z, upd_same] at hp; cases hp
    rw [upd_ne nd] at hp
    exact hq x dx p hx hdx ne nx nd hp
  · exact absurd rfl e
theorem PromC.plainX {C q : Str} {st : Stmt} {N ps : List Str} {sp sp0 : Sp} {k : Nat} (mk : Mk K (He.ga K C) (He.ma K (He.ga K C) "__init__")) (hm : mg C = some (.ref (He.ga K C))) (D : DefAtM K C "__init__" q st) (S : FnScope N ps (defScope st))
    (len : ∀ vs H Q E, sp0 vs H Q E → vs.length = ps.length)
    (hb : ∀ (kV doc pm : Value) (an : Option Addr) (cdv ct : Value) (us : List Value), us.length = ps.length → bindArgs (PySem.W.fnOf "__init__" q (defArgs st) (defBody st) (defScope st) .none kV doc pm an cdv ct) ⟨us, []⟩ = pure (ps.zip us))
    (hbody : ∀ (f : Addr) (cdv : Value) (A : Around) (outer : List Env) (s : Shared) (H : Hp) (vs : List V) (Q : VK) (E : XK), Room k (A.deeper (envOfC q (defScope st) s.heap.objs.size f cdv)) → sp0 vs H Q E →
      ∃ t, PSs (cxOf (L2.CX P w) P w K mg base N q (defScope st) f cdv A outer s H E) (defBody st) t ∧ t { nx := fun _ H' => Q .non H', rt := Q } (start N vs) H)
    (hsp : ∀ vs H Q E, sp vs H Q E → ∀ x dx, H x = none → H dx = none → dx ≠ x → sp0 (.ref x :: vs) (upd (upd H dx (.own x)) x (.ins (He.ga K C) dx [])) (fun u H2 => u = .non ∧ Q (.ref x) H2) E) :
    PromC P w K mg base (L2.CX P w) (k + 1) C sp := by
  obtain ⟨fd, F⟩ := D
  have F1 : FnOk P w K mg base (L2.CX P w) (k + 1) (He.ma K (He.ga K C) "__init__") fd ps sp0 := F.ok S len (fun cdv A outer s H vs Q E hr hs => hbody _ cdv A outer s H vs Q E hr hs)
  refine ⟨mk, hm, _, F1.raw (F.bindsN hb) .nil, fun vs H Q E hs x dx hx hdx ne => ?_⟩
  rw [List.append_nil]
  exact hsp vs H Q E hs x dx hx hdx ne
end
end Sz
/-! reading texts: the kinds among the keys, words of figures -/
namespace Sz
open PySem PySem.Spec PyProof.Rows L2
def kinds7 : List Str := ["plus", "told", "whole", "pieces", "cut", "coded", "filled"]
def keysB (K : PySem.W.Frag) (D : Addr) : Bool := match K.lookup D with
  | some ⟨_, _, .dict es _, _⟩ => es.toList.all fun e => (kinds7.any fun k => e.key.isStr k) && !e.refKey
  | _ => false
theorem isStr_uniq {v : Value} {a b : Str} (h : v.isStr a = true) (g : v.isStr b = true) : a = b := by
  cases v with
  | str x t =>
    have h : (x == a) = true := h
    have g : (x == b) = true := g
    rw [← beq_iff_eq.mp h, ← beq_iff_eq.mp g]
  | _ => cases h
theorem keysB_ok {K : PySem.W.Frag} {D : Addr} (h : keysB K D = true) {z : Str} (hz : z ∉ kinds7) : PySem.W.nsIn K D z = some none := by
  unfold keysB at h
  unfold PySem.W.nsIn
  split at h
  · rename_i c dd es n sl e
    rw [e]
    have key : ∀ x ∈ es.toList, (kinds7.any fun k => x.key.isStr k) = true ∧ x.refKey = false := fun x hx => by
      have := List.all_eq_true.mp h x hx
      rw [Bool.and_eq_true, Bool.not_eq_true'] at this
      exact this
    have h1 : es.toList.find? (·.key.isStr z) = none := by
      rw [List.find?_eq_none]
      intro x hx hs
      obtain ⟨k, hk, ks⟩ := List.any_eq_true.mp (key x hx).1
      exact hz (isStr_uniq hs ks ▸ hk)
    have h2 : es.toList.any (·.refKey) = false := by
      rw [List.any_eq_false]
      intro x hx
      rw [(key x hx).2]
      exact Bool.false_ne_true
    simp only [h1, h2]
    rfl
  · cases h
/-! ### words of figures -/
def dig (c : Nat) : Bool := decide (48 ≤ c ∧ c ≤ 57)
def digV (cs : List Nat) : Int := cs.foldl (fun (a : Int) (c : Nat) => 10 * a + ((c : Int) - 48)) 0
/-- the integer that a word tells, -1 if it tells none -/
def numV (s : Str) : Int := if s = "" then -1 else if s.cps.toList[0]? = some 48 ∧ s ≠ "0" then -1 else if s.cps.toList.all dig = true then digV s.cps.toList else -1
theorem digV_snoc (cs : List Nat) (c : Nat) : digV (cs ++ [c]) = 10 * digV cs + ((c : Int) - 48) := by
  unfold digV
  rw [List.foldl_append]
  rfl
def tens : Str := "0123456789"
theorem tens_dig : ∀ c : Fin 128, decide (c.val ∈ tens.cps.toList) = dig c.val := by decide +kernel
theorem tens_mem (c : Nat) : decide (c ∈ tens.cps.toList) = dig c := by
  by_cases h : c < 128
  · exact tens_dig ⟨c, h⟩
  · have h1 : c ∉ tens.cps.toList := fun hc => by
      have key : ∀ x ∈ tens.cps.toList, x < 128 := by decide +kernel
      exact h (key c hc)
    rw [decide_eq_false h1]
    unfold dig
    rw [decide_eq_false (by omega)]
theorem tens_at : ∀ c : Fin 10, Builtin.Str.occurrences tens ⟨#[48 + c.val]⟩ 0 tens.length 1 = [c.val] := by decide +kernel
/-! ### for and comprehensions over the signs of a text -/
theorem for_str {z : Str} {g : TG} {tb : TS} {D : Ends} {σ : L2.St} {H : Hp} (Pv : Nat → L2.St → Hp → Prop) (h0 : Pv 0 σ H)
    (hs : ∀ i c σ H, z.cps.toList[i]? = some c → Pv i σ H → g (.str ⟨#[c]⟩) σ H fun σ2 H2 => tb { D with nx := Pv (i + 1), ct := Pv (i + 1), bk := D.nx } σ2 H2) (hd : ∀ σ H, Pv z.length σ H → D.nx σ H) :
    ∃ W : Nat → Nat → L2.St → Hp → Prop, (∃ m, W 0 m σ H) ∧ ∀ i m σ H, W i m σ H →
      ((Its z).stop i H ∧ D.nx σ H) ∨ ((Its z).go i H ∧ ∃ N : L2.St → Hp → Prop, (∀ σ' H', N σ' H' → ∃ m', m' < m ∧ W (i + 1) m' σ' H') ∧ ∀ x H', (Its z).yld i H x H' → g x σ H' fun σ2 H2 => tb { D with nx := N, ct := N, bk := D.nx } σ2 H2) := by
  refine ⟨fun i m σ H => m = z.cps.size - i ∧ i ≤ z.cps.size ∧ Pv i σ H, ⟨z.cps.size, by simp, Nat.zero_le _, h0⟩, ?_⟩
  rintro i m σ H ⟨rfl, hi, p⟩
  by_cases hlt : i < z.cps.size
  · refine .inr ⟨hlt, Pv (i + 1), fun σ' H' p' => ⟨z.cps.size - (i + 1), by omega, rfl, hlt, p'⟩, fun x H' y => ?_⟩
    obtain ⟨e, c, hc, y⟩ := y
    subst e
    subst y
    exact hs i c σ _ (by simpa using hc) p
  · have e : i = z.cps.size := by omega
    subst e
    exact .inl ⟨Nat.le_refl _, hd σ H p⟩
theorem lc_str {z : Str} {g : TG} {tt : TT} {te : TE} {vs : List Nat} {σ : L2.St} {H1 : Hp} {D : Addr} {Qd : Hp → Prop} (Pv : Nat → Hp → Prop) (h0 : Pv 0 (upd H1 D (.lst [])))
    (hs : ∀ i c H, z.cps.toList[i]? = some c → Pv i H → g (.str ⟨#[c]⟩) (wipe σ vs) H fun σ2 H2 => wipe σ2 vs = wipe σ vs ∧ tt σ2 H2 fun b H3 =>
      if b = true then te σ2 H3 fun y H4 => ∃ acc, H4 D = some (.lst acc) ∧ acc.length < sizeLine ∧ Pv (i + 1) (upd H4 D (.lst (acc ++ [y]))) else Pv (i + 1) H3) (hd : ∀ H, Pv z.length H → Qd H) :
    ∃ W : Nat → Nat → Hp → Prop, (∃ m, W 0 m (upd H1 D (.lst []))) ∧ ∀ i m H, W i m H →
      ((Its z).stop i H ∧ Qd H) ∨ ((Its z).go i H ∧ ∃ Nx : Hp → Prop, (∀ H', Nx H' → ∃ m', m' < m ∧ W (i + 1) m' H') ∧ ∀ x H', (Its z).yld i H x H' → g x (wipe σ vs) H' fun σ2 H2 => wipe σ2 vs = wipe σ vs ∧ tt σ2 H2 fun b H3 =>
        if b = true then te σ2 H3 fun y H4 => ∃ acc, H4 D = some (.lst acc) ∧ acc.length < sizeLine ∧ Nx (upd H4 D (.lst (acc ++ [y]))) else Nx H3) := by
  refine ⟨fun i m H => m = z.cps.size - i ∧ i ≤ z.cps.size ∧ Pv i H, ⟨z.cps.size, by simp, Nat.zero_le _, h0⟩, ?_⟩
  rintro i m H ⟨rfl, hi, p⟩
  by_cases hlt : i < z.cps.size
  · refine .inr ⟨hlt, Pv (i + 1), fun H' p' => ⟨z.cps.size - (i + 1), by omega, rfl, hlt, p'⟩, fun x H' y => ?_⟩
    obtain ⟨e, c, hc, y⟩ := y
    subst e
    subst y
    exact hs i c _ (by simpa using hc) p
  · have e : i = z.cps.size := by omega
    subst e
    exact .inl ⟨Nat.le_refl _, hd H p⟩
section
variable {X : Cx}
def rIndexS : V → List V → Hp → VK → Prop := fun x xs H Q => ∃ a b i rest, x = .str a ∧ xs = [.str b] ∧ Builtin.Str.occurrences a b 0 a.length 1 = i :: rest ∧ Q (.int (i : Nat)) H
theorem pe_sindex {o e : Expr} {to te : TE} {apos pos : Pos} (ho : PE X o to) (he : PE X e te) (hs : starEach [e] X.env = [(false, eval e X.env)] := by rfl) (hbase : attributeBase o "index" X.env (eval o X.env) = eval o X.env := by rfl) (hline : (apos.endLine == pos.line) = true := by rfl) :
    PE X (.Call (.Attribute o "index" apos) [e] [] pos) (tM1 rIndexS to te) :=
  pe_m1 F.slot_str_index F.type_str_index mt_sindex ho he hs hbase hline
end
/-! ### what a word of figures is, sign by sign -/
theorem one_eq {c d : Nat} : (⟨#[c]⟩ : Str) = ⟨#[d]⟩ ↔ c = d := ⟨fun h => by cases h; rfl, fun h => by rw [h]⟩
theorem numV_empty : numV "" = -1 := rfl
theorem numV_zero {s : Str} (h : s ≠ "") (h0 : s.cps.toList[0]? = some 48) (h1 : s ≠ "0") : numV s = -1 := by
  unfold numV
  rw [if_neg h, if_pos ⟨h0, h1⟩]
theorem numV_all {s : Str} (h : s ≠ "") (h0 : ¬ (s.cps.toList[0]? = some 48 ∧ s ≠ "0")) (ha : ∀ c ∈ s.cps.toList, dig c = true) : numV s = digV s.cps.toList := by
  unfold numV
  rw [if_neg h, if_neg h0, if_pos (List.all_eq_true.mpr ha)]
theorem numV_not {s : Str} {c : Nat} (h : c ∈ s.cps.toList) (hc : dig c = false) : numV s = -1 := by
  unfold numV
  split
  · rfl
  split
  · rfl
  split
  · rename_i z
    rw [List.all_eq_true.mp z c h] at hc
    cases hc
  · rfl
end Sz
/-! x in a list whose items have own ==: every turn may make objects -/
namespace PySem.SeqAt
open PySem PySem.Spec PySem.Calls PyProof.Rows
open MeetsSeq MeetsSeq2 MeetsSeq3 SeqRoads2
theorem contains_loopG {prog : Program} {w : World} {E : Value → Shared → Prop} {A : Around} {R : Result → Shared → Prop} {l : Addr} {N : Nat} {x : Value} (e : Nat → Bool) (J : Shared → Prop)
    (hJ : ∀ s, J s → ∃ (items : Array Value) (n : Nat) (dd : Option Addr) (sl : Array (Option Value)), s.heap.get? l = some { cls := .type "list", dict := dd, data := .seq items n, slots := sl } ∧ items.size = N ∧
      ∀ i y, items[i]? = some y → wpAny (model prog w) A.in1 (eqBool y x) (fun b s' => b = e i ∧ J s') E s) (hE : ∀ er s, E er s → R (.error er) s) (k : Nat) :
    ∀ (i : Nat) (s : Shared), N - i = k → J s → (∀ s, J s → R (.ok (.ret (.bool ((List.range' i k).any e)))) s) →
      wpAny (model prog w) A.in1 (Builtin.«list.__contains__.loop» ⟨[.ref l, x, rawInt i], []⟩) (fun fin s' => match fin with | .done f => R (.ok f) s' | .again c' => c'.quiet = true ∧ codeAny (model prog w) A c' R s') (fun e s' => R (.error e) s') s := by
  induction k with
  | zero =>
    intro i s hk j h
    obtain ⟨items, n, dd, sl, hl, hN, _⟩ := hJ s j
    have h := h s j
    obtain ⟨hp, g, d, tk, os⟩ := s
    wp_walk using PySem.AutoSeq1.wpAny_loadPart' hl
    have hi : items[((i : Nat) : Int).toNat]? = none := by simp; omega
    rw [hi]
    wp_walk
    exact h
  | succ k ih =>
    intro i s hk j h
    obtain ⟨items, n, dd, sl, hl, hN, turn⟩ := hJ s j
    have hlt : i < items.size := by omega
    have t := turn i items[i] (by simp [hlt])
    obtain ⟨hp, g, d, tk, os⟩ := s
    wp_walk using PySem.AutoSeq1.wpAny_loadPart' hl
    have hi : items[((i : Nat) : Int).toNat]? = some items[i] := by simp [hlt]
    rw [List.range'_succ, List.any_cons] at h
    rw [hi]
    refine wpAny_bind (wpAny_mono t (fun b s' hb => ?_) hE)
    obtain ⟨rfl, j'⟩ := hb
    cases hb : e i with
    | true =>
      rw [hb] at h
      have h := h s' j'
      obtain ⟨hp, g, d, tk, os⟩ := s'
      wp_walk
      exact h
    | false =>
      rw [hb] at h
      have hc : ((i : Int) + 1) = ((i + 1 : Nat) : Int) := by push_cast; rfl
      have h2 := ih (i + 1) s' (by omega) j' (fun s js => by simpa using h s js)
      obtain ⟨hp, g, d, tk, os⟩ := s'
      wp_walk
      rw [hc]
      exact ⟨plainId_quiet plain_contains_loop _, codeAny_builtin entry_contains_loop (by
        rw [Around.under_plainId plain_contains_loop _]
        exact h2)⟩
theorem in_listG {prog : Program} {w : World} {E : Value → Shared → Prop} {A : Around} {s : Shared} {l : Addr} {N : Nat} {x : Value} {Q : Value → Shared → Prop} (e : Nat → Bool) (J : Shared → Prop)
    (hJ : ∀ s, J s → ∃ (items : Array Value) (n : Nat) (dd : Option Addr) (sl : Array (Option Value)), s.heap.get? l = some { cls := .type "list", dict := dd, data := .seq items n, slots := sl } ∧ items.size = N ∧
      ∀ i y, items[i]? = some y → wpAny (model prog w) A.in1 (eqBool y x) (fun b s' => b = e i ∧ J s') E s)
    (j : J s) (h : ∀ s, J s → Q (.bool ((List.range' 0 N).any e)) s) : wpAny (model prog w) A (compareOp .In x (.ref l)) Q E s := by
  show wpAny _ A (do return .bool (← contains (.ref l) x)) Q E s
  have hT : s.TypeIs (.ref l) "list" := by
    obtain ⟨items, n, dd, sl, hl, _⟩ := hJ s j
    exact ⟨_, hl, rfl⟩
  refine wpAny_bind (PySem.wpAny_contains_slot hT F.slot_list_contains (wpAny_mono (call_meetsIn (S := fun A' R s' => A' = A ∧ R = wants (fun v s' => ∃ b, v = .bool b ∧ Q (.bool b) s') E ∧ J s') F.slot_list_contains hT F.entry_list_contains (F.args_list_contains_2 _ _) ?_ ⟨rfl, rfl, j⟩) (fun v s' hv => ?_) fun _ _ e => e))
  · rintro A' R s' ⟨rfl, rfl, j'⟩
    obtain ⟨items, n, dd, sl, hl, hN, _⟩ := hJ s' j'
    have go := contains_loopG (R := wants (fun v s' => ∃ b, v = .bool b ∧ Q (.bool b) s') E) e J hJ (fun _ _ h => h) N 0 s' (by simp) j' (fun s js => ⟨_, rfl, h s js⟩)
    obtain ⟨hp, g, d, tk, os⟩ := s'
    wp_walk using PySem.AutoSeq1.wpAny_loadPart' hl
    exact ⟨plainId_quiet plain_contains_loop _, codeAny_builtin entry_contains_loop (by
      rw [Around.under_plainId plain_contains_loop _]
      exact go)⟩
  · obtain ⟨b, rfl, hq⟩ := hv
    exact wpAny_truthy_bool (wpAny_pure hq)
end PySem.SeqAt
namespace Sz
open PySem PySem.Spec PySem.Calls PyProof.Rows L2
theorem notFirst_none {K : PySem.W.Frag} {C : Addr} : PySem.W.notFirst K C (.type "NoneType") = true := by
  have h : PySem.W.subIn K (.type "NoneType") (.ref C) = some false := by
    unfold PySem.W.subIn
    rfl
  unfold PySem.W.notFirst
  rw [h]
  rfl
/-- an own == says no of None -/
def spEqN (N : Addr → Hp → Prop) : Sp := fun vs H Q _ => ∃ a, vs = [.ref a, .non] ∧ N a H ∧ ∀ H', Ext H H' → Q (.bl false) H'
section
variable {X : Cx} {n : Nat}
theorem eqN_run {CX : CXT} {C f : Addr} {fd : FuncData} {ps : List Str} {N : Addr → Hp → Prop} {E : XK} (F : FnOk X.prog X.w X.K X.mg X.base CX n f fd ps (spEqN N))
    (hs : PySem.W.findIn X.K (.ref C) "__eq__" = some (some (.ref f))) (hf : PySem.W.isFn X.K (.ref f) = true) (hb : Binds X.K fd ps []) (hx : Passes CX X E)
    {A : Around} {pins : List (Addr × Obj)} {s : Shared} {σ : L2.St} {H : Hp} {a dx : Addr} {fs : List (Str × V)} (sb : Sub X n A) (I : Inv X pins σ H s) (ha : H a = some (.ins C dx fs)) (hr : N a H) :
    wpAny (model X.prog X.w) A (eqBool (.ref a) .none) (fun r s' => r = false ∧ ∃ H', Inv X pins σ H' s' ∧ Ext H H') X.xe s := by
  obtain ⟨mA, J, _⟩ := ins_get I.hok ha
  obtain ⟨od, J, _⟩ := J.look
  obtain ⟨m, hF⟩ := I.fr
  unfold eqBool
  refine wpAny_holding ?_
  refine wpAny_ite_split (fun hab => by cases eq_of_beq hab) (fun _ => ?_)
  refine wpAny_bind ?_
  refine PySem.W.cmp_K (op := .Eq) (tb := .type "NoneType") sb.room.units0 hF I.ok.mod.kin J (PySem.W.Looks.of_pure rfl) notFirst_none hs hf ?_
  have hsp : spEqN N [.ref a, .non] H (fun v H' => v = .bl false ∧ Ext H H') E := ⟨a, rfl, hr, fun H' e => ⟨rfl, e⟩⟩
  have e0 : Env0 X.prog X.w X.K X.mg X.base A X.stack s H := by
    have e := I.env0
    exact ⟨by rw [sb.fr]; exact e.frames, e.mod, e.bs, e.bsz, e.funs, e.frf, e.hok, e.bare⟩
  have hl := F.len _ _ _ _ hsp
  have r2 : Vals [V.ref a, V.non] [Value.ref a, Value.none] := .cons rfl (.cons rfl .nil)
  refine wpAny_call (codeAny_mono (F.run A X.stack s H ⟨[.ref a, .none], []⟩ [.ref a, .none] [.ref a, .non] _ E sb.room e0 (by
    have := hb s [.ref a, .none] I.kIn (by simpa using hl)
    simpa using this) r2 hsp) fun r s' hq => ?_)
  cases r with
  | error e => exact hx pins σ H s e s' I hq
  | ok fl =>
    cases fl with
    | ret w =>
      obtain ⟨z, H', I', rz, ez, ex⟩ := I.after hq
      subst ez
      cases rz
      exact wpAny_truthy_bool ⟨rfl, H', I', ex⟩
    | next => exact False.elim hq
    | brk => exact False.elim hq
    | cont => exact False.elim hq
end
end Sz
namespace Sz
open PySem PySem.Spec PySem.Calls PyProof.Rows L2
def isNon : V → Bool
  | .non => true
  | _ => false
/-- None in a list of things of one class and None -/
def rInN (K : PySem.W.Frag) (C : Addr) (N : Addr → Hp → Prop) : R2 := fun x y H Q => ∃ p ys, x = .non ∧ y = .ref p ∧ SqL K H p ys ∧ (∀ z ∈ ys, z = .non ∨ ∃ a dx fs, z = .ref a ∧ H a = some (.ins C dx fs) ∧ N a H) ∧ ∀ H', Ext H H' → Q (.bl (ys.any isNon)) H'
theorem any_range {ys : List V} : ∀ {zs ds : List V}, ys = ds ++ zs → (List.range' ds.length zs.length).any (fun i => (ys[i]?.map isNon).getD false) = zs.any isNon
  | [], _, _ => rfl
  | z :: zs, ds, e => by
    have ih := any_range (ys := ys) (zs := zs) (ds := ds ++ [z]) (by rw [e]; simp)
    rw [List.length_append] at ih
    rw [List.length_cons, List.range'_succ, List.any_cons, List.any_cons, ← ih]
    have e2 : ys[ds.length]? = some z := by rw [e]; simp
    rw [e2]
    rfl
section
variable {X : Cx} {CX : CXT} {k : Nat} {C : Str} {ps : List Str} {N : Addr → Hp → Prop} {E : XK}
theorem op_inN (G : PromM X.prog X.w X.K X.mg X.base CX k C "__eq__" ps (spEqN N)) (hm : ∀ a H H', Ext H H' → N a H → N a H') (hr : Room (k + 1) X.A) (hx : Passes CX X E) : OpR X (compareOp .In) (rInN X.K (He.ga X.K C) N) := by
  intro pins s σ H x y v u Q I rx ry h
  obtain ⟨p, ys, rfl, rfl, hq, hy, q⟩ := h
  cases rx
  cases ry
  obtain ⟨fd, F, b⟩ := G.ex
  refine SeqAt.in_listG (N := ys.length) (fun i => (ys[i]?.map isNon).getD false) (fun s' => ∃ H', Inv X pins σ H' s' ∧ Ext H H') ?_ ⟨H, I, Ext.rfl'⟩ ?_
  · rintro s' ⟨H', I', e'⟩
    obtain ⟨its, r, ⟨o, n, ho, hc, hd, hdat⟩, hz⟩ := I'.list (Same.seq e' hq)
    refine ⟨its.toArray, n, o.dict, o.slots, ?_, ?_, ?_⟩
    · rw [ho]
      cases o
      cases hc
      cases hdat
      rfl
    · simpa using r.length.symm
    · intro i y hi
      have hi : its[i]? = some y := by simpa using hi
      obtain ⟨z, hz, rz⟩ : ∃ z, ys[i]? = some z ∧ RelV z y := by
        have hlt : i < its.length := by
          rcases List.getElem?_eq_some_iff.mp hi with ⟨h, _⟩
          exact h
        have hy2 : i < ys.length := by
          have := r.length
          omega
        obtain ⟨u, hu, ru⟩ := r.get (List.getElem?_eq_getElem hy2)
        rw [hi] at hu
        cases hu
        exact ⟨_, List.getElem?_eq_getElem hy2, ru⟩
      rcases hy z (List.mem_of_getElem? hz) with rfl | ⟨a, dx, fs, rfl, ha, hN⟩
      · cases rz
        rw [hz]
        exact SeqAt.EqAt.same (A := X.A.in1) (s := s') .none X.prog X.w X.xe _ ⟨rfl, H', I', e'⟩
      · cases rz
        rw [hz]
        refine wpAny_mono (eqN_run F G.me.at_ G.me.fn b hx ⟨hr.in1, rfl⟩ I' (e' _ _ ha) (hm _ _ _ e' hN)) (fun r s2 z => ?_) fun _ _ x => x
        obtain ⟨hr, H2, I2, e2⟩ := z
        exact ⟨hr, H2, I2, e'.trans e2⟩
  · rintro s' ⟨H', I', e'⟩
    have ea := any_range (ys := ys) (zs := ys) (ds := []) rfl
    rw [show (List.range' 0 ys.length).any _ = ys.any isNon from ea]
    exact ⟨.bl _, H', I', rfl, q _ e'⟩
end
end Sz
/-! == by an own __eq__, whatever stands on the right -/
namespace Sz
open PySem PySem.Spec PyProof.Rows L2
section
variable {X : Cx} {CX : CXT} {k : Nat} {C : Str} {ps : List Str} {sp : Sp} {E : XK}
theorem op_eqOA (G : PromM X.prog X.w X.K X.mg X.base CX k C "__eq__" ps sp) (hr : Room k X.A) (hx : Passes CX X E) :
    OpR X (compareOp .Eq) (fun x y H Q => ∃ p dx fs t, x = .ref p ∧ H p = some (.ins (He.ga X.K C) dx fs) ∧ TyX X.K H y t ∧ PySem.W.notFirst X.K (He.ga X.K C) t = true ∧ sp [.ref p, y] H (fun v H2 => ∃ b : Bool, v = .bl b ∧ Q (.bl b) H2) E) := by
  intro pins s σ H x y v u Q I rx ry h
  obtain ⟨p, dx, fs, t, rfl, hp, ty, hn, h⟩ := h
  obtain rfl : v = Value.ref p := rx
  obtain ⟨m1, O1, _⟩ := ins_get I.hok hp
  obtain ⟨od1, J1, _⟩ := O1.look
  obtain ⟨m, hF⟩ := I.fr
  obtain ⟨Pt, kx, hPt, _⟩ := kit_of I ry ty
  show wpAny (model X.prog X.w) X.A (richCompare .Eq (.ref p) u) (EP X pins σ Q) X.xe s
  refine PySem.W.cmp_K (op := .Eq) (tb := t) hr.units0 hF I.ok.mod.kin J1 (kx.ty _ _ I.kIn hPt) hn G.me.at_ G.me.fn ?_
  refine wpAny_mono (run_own G hx (A := X.A) ⟨hr, rfl⟩ (vs := [.ref p, y]) (us := [.ref p, u]) I (.cons rfl (.cons ry .nil)) h) (fun v s' z => ?_) fun _ _ y => y
  obtain ⟨z, H', I', rz, b, rfl, q⟩ := z
  cases rz
  exact ⟨.bl b, H', I', rfl, q⟩
end
theorem notFirst_str {K : PySem.W.Frag} {C : Addr} : PySem.W.notFirst K C (.type "str") = true := by rfl
theorem notFirst_tup {K : PySem.W.Frag} {C : Addr} : PySem.W.notFirst K C (.type "tuple") = true := by rfl
theorem notFirst_own {K : PySem.W.Frag} {C : Addr} : PySem.W.notFirst K C (.ref C) = true := by simp [PySem.W.notFirst]
/-- data of ints, compared -/
theorem eqvAll_ints : ∀ xs ys : List Int, PyData.eqvAll (xs.map PyData.int) (ys.map PyData.int) = decide (xs = ys)
  | [], [] => rfl
  | [], _ :: _ => rfl
  | _ :: _, [] => rfl
  | x :: xs, y :: ys => by
    show (PyData.eqv (.int x) (.int y) && PyData.eqvAll (xs.map PyData.int) (ys.map PyData.int)) = _
    rw [eqvAll_ints xs ys]
    show ((x == y) && decide (xs = ys)) = decide (x :: xs = y :: ys)
    by_cases h : x = y <;> simp [h]
end Sz
/-! methods called with a keyword; a list times an integer -/
namespace Sz
open PySem PySem.Spec PyProof.Rows L2
/-- a method's promise, its function known -/
structure PromMD (P : Program) (w : World) (K : PySem.W.Frag) (mg : Str → Option Value) (base : Heap) (CX : CXT) (k : Nat) (C m q : Str) (st : Stmt) (ps : List Str) (sp : Sp) : Prop where
  cl : Cls K (He.ga K C)
  me : Meth K (He.ga K C) m (He.ma K (He.ga K C) m)
  ex : ∃ fd, FnOk P w K mg base CX k (He.ma K (He.ga K C) m) fd ps sp ∧ Binds K fd ps [] ∧ FunD K m q (defArgs st) (defBody st) (defScope st) [] [] (He.ma K (He.ga K C) m) fd
theorem PromMD.m {P : Program} {w : World} {K : PySem.W.Frag} {mg : Str → Option Value} {base : Heap} {CX : CXT} {k : Nat} {C m q : Str} {st : Stmt} {ps : List Str} {sp : Sp} (h : PromMD P w K mg base CX k C m q st ps sp) : PromM P w K mg base CX k C m ps sp :=
  let ⟨fd, F, b, _⟩ := h.ex
  ⟨h.cl, h.me, fd, F, b⟩
theorem PromMD.of {P : Program} {w : World} {K : PySem.W.Frag} {mg : Str → Option Value} {base : Heap} {C m q : Str} {st : Stmt} {ps N : List Str} {sp : Sp} {k : Nat} (cl : Cls K (He.ga K C)) (me : Meth K (He.ga K C) m (He.ma K (He.ga K C) m)) (D : DefAtM K C m q st) (S : FnScope N ps (defScope st)) (len : ∀ vs H Q E, sp vs H Q E → vs.length = ps.length)
    (hb : ∀ (kV doc pm : Value) (an : Option Addr) (cdv ct : Value) (us : List Value), us.length = ps.length → bindArgs (PySem.W.fnOf m q (defArgs st) (defBody st) (defScope st) .none kV doc pm an cdv ct) ⟨us, []⟩ = pure (ps.zip us))
    (hbody : ∀ (f : Addr) (cdv : Value) (A : Around) (outer : List Env) (s : Shared) (H : Hp) (vs : List V) (Q : VK) (E : XK), Room k (A.deeper (envOfC q (defScope st) s.heap.objs.size f cdv)) → sp vs H Q E →
      ∃ t, PSs (cxOf CX0 P w K mg base N q (defScope st) f cdv A outer s H E).nox (defBody st) t ∧ t { nx := fun _ H' => Q .non H', rt := Q } (start N vs) H) :
    PromMD P w K mg base CX0 (k + 1) C m q st ps sp := by
  obtain ⟨fd, F⟩ := D
  refine ⟨cl, me, fd, F.ok S len (fun cdv A outer s H vs Q E hr hs => ?_), F.bindsN hb, F⟩
  obtain ⟨t, h1, h2⟩ := hbody _ cdv A outer s H vs Q E hr hs
  exact ⟨t, h1.nox, h2⟩
/-- the receiver and one value by its name -/
def two1 {α : Type} (us ws : List α) : List α := match us, ws with
  | [u], [w] => [u, w]
  | _, _ => []
theorem two1_vals {vs zs : List V} {us ws : List Value} (r : Vals vs us) (z : Vals zs ws) : Vals (two1 vs zs) (two1 us ws) := by
  cases r with
  | nil => exact .nil
  | cons a r =>
    cases r with
    | cons _ _ => exact .nil
    | nil =>
      cases z with
      | nil => exact .nil
      | cons b z =>
        cases z with
        | nil => exact .cons a (.cons b .nil)
        | cons _ _ => exact .nil
theorem kb_two {K : PySem.W.Frag} {m q : Str} {st : Stmt} {ps ks : List Str} {f : Addr} {fd : FuncData} (hne : ps.length = 2)
    (h : ∀ (kV doc pm : Value) (an : Option Addr) (cdv ct u w : Value), bindArgs (PySem.W.fnOf m q (defArgs st) (defBody st) (defScope st) .none kV doc pm an cdv ct) ⟨[u], ks.zip [w]⟩ = pure (ps.zip [u, w]))
    (F : FunD K m q (defArgs st) (defBody st) (defScope st) [] [] f fd) : KBinds K fd ps ks two1 two1 := by
  obtain ⟨oc, od, dV, kV, doc, pm, an, cdv, ct, osl, rfl, lk, hcd, hD, hK⟩ := F.ex
  rcases hD with ⟨_, rfl⟩ | ⟨e, _⟩
  · refine ⟨fun s us ws _ hl => ?_, fun r z => two1_vals r z⟩
    match us, ws with
    | [u], [w] => exact .of_eq (h kV doc pm an cdv ct u w)
    | [], _ => exact absurd hl (by show ¬ 0 = _; omega)
    | _ :: _ :: _, _ => exact absurd hl (by show ¬ 0 = _; omega)
    | [_], [] => exact absurd hl (by show ¬ 0 = _; omega)
    | [_], _ :: _ :: _ => exact absurd hl (by show ¬ 0 = _; omega)
  · exact absurd rfl e
/-- o.m(k = v) -/
def tMethK (C : Addr) (m : Str) (sp : Sp) (E : XK) (ta : TE) (tk : TA) : TE := fun σ H Q => ta σ H fun x H1 => ∃ a dx fs, x = .ref a ∧ H1 a = some (.ins C dx fs) ∧ fs.lookup m = none ∧
  tk σ H1 fun zs H2 => sp (two1 [x] zs) H2 Q E
section
variable {X : Cx} {CX : CXT} {k : Nat} {C m q : Str} {st : Stmt} {ps ks : List Str} {sp : Sp} {E : XK} {o : Expr} {kws : List Keyword} {ta : TE} {tk : TA} {apos pos : Pos}
theorem pe_methKP {pl : Sem Bool} (G : PromMD X.prog X.w X.K X.mg X.base CX k C m q st ps sp) (hr : Room k X.A) (hx : Passes CX X E) (hne : ps.length = 2)
    (hb : ∀ (kV doc pm : Value) (an : Option Addr) (cdv ct u w : Value), bindArgs (PySem.W.fnOf m q (defArgs st) (defBody st) (defScope st) .none kV doc pm an cdv ct) ⟨[u], ks.zip [w]⟩ = pure (ps.zip [u, w]))
    (he : PE X o ta) (hkw : PK X kws tk) (hall : (backToKw pos (keywordEach kws X.env)).all (·.1.isSome) = true := by rfl) (hks : (backToKw pos (keywordEach kws X.env)).filterMap (·.1) = ks := by rfl)
    (hpl : ((backTo pos (starEach [] X.env)).any (·.1) || (backToKw pos (keywordEach kws X.env)).any (·.1.isNone)) = false := by rfl)
    (ht : eval (.Call (.Attribute o m apos) [] kws pos) X.env = (do
      let ov ← eval o X.env
      standAt apos.atName
      let (f, first) ← holding [ov] (getMethod ov m pl)
      callWith pos f first (backTo pos (starEach [] X.env)) (backToKw pos (keywordEach kws X.env))) := by rfl) :
    PE X (.Call (.Attribute o m apos) [] kws pos) (tMethK (He.ga X.K C) m sp E ta tk) := by
  obtain ⟨fd, F, _, D⟩ := G.ex
  have kb := kb_two hne hb D
  refine ⟨fun pins s σ H Q I h => ?_⟩
  refine PySem.W.methodCall_KW (pl := pl) (thn (he.run pins s σ H _ I h) fun u s1 ⟨x, H1, I1, rx, a, dx, fs, ex, ea, l, q⟩ => ?_) ht
  subst ex
  obtain rfl : u = Value.ref a := rx
  refine getmeth_ok I1 ea G.cl G.me l ?_
  refine PySem.W.callWith_KW0 (first := [.ref a]) (h₀ := X.base) I.ok.mod.kin G.me.kp hall (thn (hkw.run pos pins s1 σ H1 _ I1 q) fun ws s2 ⟨zs, H2, I2, rz, q2⟩ => ⟨I2.kIn, ?_⟩) hpl
  rw [hks]
  exact run_fnk (us := [.ref a]) (vs := [.ref a]) F hr kb hx I2 (.cons rfl .nil) rz q2
end
/-! ### a list times an integer -/
theorem op_mulL {X : Cx} : OpR X (binaryOp .Mult) (fun x y H Q => ∃ (a : Addr) (xs : List V) (n : Nat), x = V.ref a ∧ y = V.int (n : Int) ∧ n ≤ 4 ∧ xs.length ≤ 1000 ∧ SqL X.K H a xs ∧ ∀ p, H p = none → Q (.ref p) (upd H p (.lst (List.replicate n xs).flatten))) := by
  intro pins s σ H x y v u Q I rx ry h
  obtain ⟨a, xs, k, rfl, rfl, k4, xl, hs, q⟩ := h
  obtain rfl : v = Value.ref a := rx
  obtain ⟨tk, rfl⟩ := ry
  obtain ⟨its, rv, ⟨⟨cls, dd, data, sl⟩, n, ho, hc, hdn, hd⟩, hlen⟩ := I.list hs
  have hc1 : cls = Value.type "list" := hc
  have hd1 : data = Data.seq its.toArray n := hd
  subst hc1 hd1
  have hz : its.length ≤ 1000 := by rw [← rv.length]; exact xl
  have hsl := sizeLine_eq
  have hm : its.toArray.size * ((k : Int)).toNat ≤ 4000 := by
    rw [List.size_toArray]
    show its.length * k ≤ 4000
    exact Nat.mul_le_mul hz k4
  have e0 : ((k : Nat) : Int).toNat = k := rfl
  have f0 : Builtin.List.listFitsIndex ((k : Nat) : Int) = true := by
    have : k = 0 ∨ k = 1 ∨ k = 2 ∨ k = 3 ∨ k = 4 := by omega
    rcases this with rfl | rfl | rfl | rfl | rfl <;> decide
  have f1 : ¬ its.toArray.size * ((k : Nat) : Int).toNat > (2 ^ 63 - 1) / 8 := by
    have : (4000 : Nat) ≤ (2 ^ 63 - 1) / 8 := by decide
    omega
  have f2 : ¬ Builtin.List.listTooLong (its.toArray.size * ((k : Nat) : Int).toNat) = true := fun z => by
    have z := of_decide_eq_true z
    omega
  clear hm
  generalize ((k : Nat) : Int) = x at *
  refine wpAny_binaryOp_repeat_ref (T := "list") (U := "int") (by decide) ⟨_, ho, rfl⟩ (fun s' => typeIs_int s' _ tk) noFill_list_mul F.fills_int_mul F.slot_int_rmul repeat_list F.slot_int_index.lookup
    (call_meets F.slot_int_rmul (typeIs_int s _ tk) F.entry_int_rmul (F.args_int_rmul_2 _ _) (lm_int_rmul_list_any x tk a its.toArray n dd sl)
      ⟨ho, rfl, ⟨_, ho, rfl⟩, call_meets F.slot_list_mul ⟨_, ho, rfl⟩ F.entry_list_mul (F.args_list_mul_2 _ _)
        (lm_list_mul_any a its.toArray n dd sl x tk (by rw [f0]; decide) f1 f2)
        (And.intro ho ?_)⟩)
  rw [listMul_foldl_if, e0]
  refine ⟨.ref s.heap.objs.size, upd H s.heap.objs.size (.lst (List.replicate k xs).flatten), I.laid (t' := s.toks) (fun b o e => Heap.get?_push_of_some _ e) (Nat.le_refl _) ⟨?_, _, 0, ?_, Heap.get?_push_size _ rfl⟩, rfl, q _ (I.hok.fresh (Nat.le_refl _))⟩
  · have key : ∀ j : Nat, (List.replicate j xs).flatten.length = j * xs.length := fun j => by
      induction j with
      | zero => simp
      | succ j ih => rw [List.replicate_succ, List.flatten_cons, List.length_append, ih, Nat.succ_mul, Nat.add_comm]
    rw [key]
    have := Nat.mul_le_mul k4 xl
    omega
  · show Vals (List.replicate k xs).flatten (List.replicate k its).flatten
    clear q f0 f1 f2 e0 k4
    induction k with
    | zero => exact .nil
    | succ k ih =>
      rw [List.replicate_succ, List.replicate_succ, List.flatten_cons, List.flatten_cons]
      exact rv.append ih
end Sz
/-! staticmethods, called on their class: C.m(..); a head that tells of their defs too -/
namespace Sz
open PySem PySem.Spec PyProof.Rows L2
/-- C.m is a staticmethod: its record at p, its def at g -/
structure SMet (K : PySem.W.Frag) (C : Addr) (m : Str) (p g : Addr) : Prop where
  rd : ClX.CRead K C (.type "type")
  at_ : PySem.W.findCls K (.ref C) (.type "type") m = some (.get (.builtin "staticmethod.__get__") (.ref p) .none (.ref C))
  rc : ∃ rest, PySem.W.recIn K p "staticmethod" = some (.ref g :: rest)
/-- the address of the def of C's staticmethod m -/
abbrev sA (K : PySem.W.Frag) (C m : Str) : Addr := He5.wf K (He.ga K C) "staticmethod" m
def smB (K : PySem.W.Frag) (C m : Str) : Bool := PySem.W.readsIn K (He.ga K C) (.type "type") && He5.wrapB K (He.ga K C) "staticmethod" "staticmethod.__get__" m
theorem smB_ok {K : PySem.W.Frag} {C m : Str} (h : smB K C m = true) : SMet K (He.ga K C) m (He.ma K (He.ga K C) m) (sA K C m) := by
  obtain ⟨h1, h2⟩ := He.ba h
  obtain ⟨h3, h4⟩ := He5.wrapB_ok h2
  refine ⟨⟨h1, ?_⟩, h3, h4⟩
  unfold PySem.W.readsIn at h1
  obtain ⟨h, _⟩ := He.ba h1
  obtain ⟨h, _⟩ := He.ba h
  obtain ⟨h, h3⟩ := He.ba h
  obtain ⟨_, h2⟩ := He.ba h
  unfold PySem.W.specialIn
  rw [beq_iff_eq.mp h2, Option.bind_some]
  exact beq_iff_eq.mp h3
section
variable {X : Cx} {pins : List (Addr × Obj)} {σ : L2.St} {H : Hp} {s : Shared} {C p g : Addr} {m : Str} {A : Around} {E : Value → Shared → Prop}
theorem getsm_ok {pl : Sem Bool} {Q : Value × List Value → Shared → Prop} (I : Inv X pins σ H s) (k : SMet X.K C m p g)
    (h : ∀ s', Inv X pins σ H s' → Q (.ref g, []) s') : wpAny (model X.prog X.w) A (getMethod (.ref C) m pl) Q E s := by
  obtain ⟨rest, hp⟩ := k.rc
  exact PySem.W.method_cls I.kIn k.rd.ga (PySem.W.cls_bind I.kIn k.rd.rd k.at_ (wpAny_call (PySem.W.sm_get (s := { s with toks := s.toks + 1 }) I.kIn hp (PySem.W.handed_on rfl (h _ (I.tok _))))))
end
/-- the def of a staticmethod -/
def DefAtS (K : PySem.W.Frag) (C m q : Str) (st : Stmt) : Prop := ∃ fd, FunD K m q (defArgs st) (defBody st) (defScope st) [] [] (sA K C m) fd
/-- C.m, a staticmethod, keeps the promise sp -/
structure PromS (P : Program) (w : World) (K : PySem.W.Frag) (mg : Str → Option Value) (base : Heap) (CX : CXT) (k : Nat) (C m q : Str) (st : Stmt) (ps : List Str) (sp : Sp) : Prop where
  sm : SMet K (He.ga K C) m (He.ma K (He.ga K C) m) (sA K C m)
  ex : ∃ fd, FnOk P w K mg base CX k (sA K C m) fd ps sp ∧ Binds K fd ps [] ∧ FunD K m q (defArgs st) (defBody st) (defScope st) [] [] (sA K C m) fd
section
variable {P : Program} {w : World} {K : PySem.W.Frag} {mg : Str → Option Value} {base : Heap}
theorem PromS.of {C m q : Str} {st : Stmt} {ps N : List Str} {sp : Sp} {k : Nat} (sm : SMet K (He.ga K C) m (He.ma K (He.ga K C) m) (sA K C m)) (D : DefAtS K C m q st) (S : FnScope N ps (defScope st)) (len : ∀ vs H Q E, sp vs H Q E → vs.length = ps.length)
    (hb : ∀ (kV doc pm : Value) (an : Option Addr) (cdv ct : Value) (us : List Value), us.length = ps.length → bindArgs (PySem.W.fnOf m q (defArgs st) (defBody st) (defScope st) .none kV doc pm an cdv ct) ⟨us, []⟩ = pure (ps.zip us))
    (hbody : ∀ (f : Addr) (cdv : Value) (A : Around) (outer : List Env) (s : Shared) (H : Hp) (vs : List V) (Q : VK) (E : XK), Room k (A.deeper (envOfC q (defScope st) s.heap.objs.size f cdv)) → sp vs H Q E →
      ∃ t, PSs (cxOf CX0 P w K mg base N q (defScope st) f cdv A outer s H E).nox (defBody st) t ∧ t { nx := fun _ H' => Q .non H', rt := Q } (start N vs) H) :
    PromS P w K mg base CX0 (k + 1) C m q st ps sp := by
  obtain ⟨fd, F⟩ := D
  refine ⟨sm, fd, F.ok S len (fun cdv A outer s H vs Q E hr hs => ?_), F.bindsN hb, F⟩
  obtain ⟨t, h1, h2⟩ := hbody _ cdv A outer s H vs Q E hr hs
  exact ⟨t, h1.nox, h2⟩
/-- .. one that raises -/
theorem PromS.ofX {C m q : Str} {st : Stmt} {ps N : List Str} {sp : Sp} {k : Nat} (sm : SMet K (He.ga K C) m (He.ma K (He.ga K C) m) (sA K C m)) (D : DefAtS K C m q st) (S : FnScope N ps (defScope st)) (len : ∀ vs H Q E, sp vs H Q E → vs.length = ps.length)
    (hb : ∀ (kV doc pm : Value) (an : Option Addr) (cdv ct : Value) (us : List Value), us.length = ps.length → bindArgs (PySem.W.fnOf m q (defArgs st) (defBody st) (defScope st) .none kV doc pm an cdv ct) ⟨us, []⟩ = pure (ps.zip us))
    (hbody : ∀ (f : Addr) (cdv : Value) (A : Around) (outer : List Env) (s : Shared) (H : Hp) (vs : List V) (Q : VK) (E : XK), Room k (A.deeper (envOfC q (defScope st) s.heap.objs.size f cdv)) → sp vs H Q E →
      ∃ t, PSs (cxOf CX0 P w K mg base N q (defScope st) f cdv A outer s H E) (defBody st) t ∧ t { nx := fun _ H' => Q .non H', rt := Q } (start N vs) H) :
    PromS P w K mg base CX0 (k + 1) C m q st ps sp := by
  obtain ⟨fd, F⟩ := D
  exact ⟨sm, fd, F.ok S len (fun cdv A outer s H vs Q E hr hs => hbody _ cdv A outer s H vs Q E hr hs), F.bindsN hb, F⟩
end
/-- C.m(e, ..) -/
def tSMeth (C : Addr) (sp : Sp) (E : XK) (ta : TE) (t : TA) : TE := fun σ H Q => ta σ H fun x H1 => x = .ref C ∧ t σ H1 fun vs H2 => sp vs H2 Q E
def tSMethK (C : Addr) (sp : Sp) (gV : List V → List V → List V) (E : XK) (ta : TE) (tk : TA) : TE := fun σ H Q => ta σ H fun x H1 => x = .ref C ∧ tk σ H1 fun zs H2 => sp (gV [] zs) H2 Q E
section
variable {X : Cx} {CX : CXT} {k : Nat} {C m q : Str} {st : Stmt} {ps ks : List Str} {sp : Sp} {E : XK} {o e : Expr} {es : List Expr} {kws : List Keyword} {ta : TE} {t tk : TA} {apos pos : Pos}
theorem pe_smethP {pl : Sem Bool} (G : PromS X.prog X.w X.K X.mg X.base CX k C m q st ps sp) (hr : Room k X.A) (hx : Passes CX X E) (he : PE X o ta) (ha : PA X (e :: es) t)
    (hst : starEach (e :: es) X.env = (false, eval e X.env) :: starEach es X.env := by rfl) (hpl : (backTo pos (starEach es X.env)).any (·.1) = false := by rfl)
    (ht : eval (.Call (.Attribute o m apos) (e :: es) [] pos) X.env = (do
      let ov ← eval o X.env
      standAt apos.atName
      let (f, first) ← holding [ov] (getMethod ov m pl)
      callWith pos f first (backTo pos (starEach (e :: es) X.env)) (backToKw pos (keywordEach [] X.env))) := by rfl) :
    PE X (.Call (.Attribute o m apos) (e :: es) [] pos) (tSMeth (He.ga X.K C) sp E ta t) := by
  obtain ⟨fd, F, b, D⟩ := G.ex
  refine ⟨fun pins s σ H Q I h => ?_⟩
  refine PySem.W.methodCall_KW (pl := pl) (thn (he.run pins s σ H _ I h) fun u s1 ⟨x, H1, I1, rx, ex, q⟩ => ?_) ht
  subst ex
  obtain rfl : u = Value.ref (He.ga X.K C) := rx
  refine getsm_ok I1 G.sm fun s2 I2 => ?_
  refine PySem.W.callWith_K (first := []) (h₀ := X.base) I.ok.mod.kin D.kp (thn (ha.run pos pins s2 σ H1 _ I2 q) fun us s3 ⟨vs, H2, I3, rv, q2⟩ => ⟨I3.kIn, ?_⟩) hst hpl
  exact run_fn (us := us) (vs := vs) F hr b .nil hx I3 rv (by rw [List.append_nil]; exact q2)
theorem pe_smethKP {pl : Sem Bool} {g : List Value → List Value → List Value} {gV : List V → List V → List V} (G : PromS X.prog X.w X.K X.mg X.base CX k C m q st ps sp) (hr : Room k X.A) (hx : Passes CX X E)
    (hb : ∀ fd f, FunD X.K m q (defArgs st) (defBody st) (defScope st) [] [] f fd → KBinds X.K fd ps ks g gV)
    (he : PE X o ta) (hkw : PK X kws tk) (hall : (backToKw pos (keywordEach kws X.env)).all (·.1.isSome) = true := by rfl) (hks : (backToKw pos (keywordEach kws X.env)).filterMap (·.1) = ks := by rfl)
    (hpl : ((backTo pos (starEach [] X.env)).any (·.1) || (backToKw pos (keywordEach kws X.env)).any (·.1.isNone)) = false := by rfl)
    (ht : eval (.Call (.Attribute o m apos) [] kws pos) X.env = (do
      let ov ← eval o X.env
      standAt apos.atName
      let (f, first) ← holding [ov] (getMethod ov m pl)
      callWith pos f first (backTo pos (starEach [] X.env)) (backToKw pos (keywordEach kws X.env))) := by rfl) :
    PE X (.Call (.Attribute o m apos) [] kws pos) (tSMethK (He.ga X.K C) sp gV E ta tk) := by
  obtain ⟨fd, F, _, D⟩ := G.ex
  have kb := hb fd _ D
  refine ⟨fun pins s σ H Q I h => ?_⟩
  refine PySem.W.methodCall_KW (pl := pl) (thn (he.run pins s σ H _ I h) fun u s1 ⟨x, H1, I1, rx, ex, q⟩ => ?_) ht
  subst ex
  obtain rfl : u = Value.ref (He.ga X.K C) := rx
  refine getsm_ok I1 G.sm fun s2 I2 => ?_
  refine PySem.W.callWith_KW0 (first := []) (h₀ := X.base) I.ok.mod.kin D.kp hall (thn (hkw.run pos pins s2 σ H1 _ I2 q) fun ws s3 ⟨zs, H2, I3, rz, q2⟩ => ⟨I3.kIn, ?_⟩) hpl
  rw [hks]
  exact run_fnk (us := []) (vs := []) F hr kb hx I3 .nil rz q2
end
/-- one value by its name, at a staticmethod -/
def kOne {α : Type} (us ws : List α) : List α := match us with
  | [] => ws
  | _ :: _ => []
theorem kOne_vals {vs zs : List V} {us ws : List Value} (r : Vals vs us) (z : Vals zs ws) : Vals (kOne vs zs) (kOne us ws) := by
  cases r with
  | nil => exact z
  | cons _ _ => exact .nil
theorem kb_one {K : PySem.W.Frag} {m q : Str} {st : Stmt} {ps ks : List Str} (hne : ps.length = 1) 
    (h : ∀ (kV doc pm : Value) (an : Option Addr) (cdv ct w : Value), bindArgs (PySem.W.fnOf m q (defArgs st) (defBody st) (defScope st) .none kV doc pm an cdv ct) ⟨[], ks.zip [w]⟩ = pure (ps.zip [w])) :
    ∀ fd f, FunD K m q (defArgs st) (defBody st) (defScope st) [] [] f fd → KBinds K fd ps ks kOne kOne := fun fd f F => by
  obtain ⟨oc, od, dV, kV, doc, pm, an, cdv, ct, osl, rfl, lk, hcd, hD, hK⟩ := F.ex
  rcases hD with ⟨_, rfl⟩ | ⟨e, _⟩
  · refine ⟨fun s us ws _ hl => ?_, fun r z => kOne_vals r z⟩
    match us, ws with
    | [], [w] => exact .of_eq (h kV doc pm an cdv ct w)
    | _ :: _, _ => exact absurd hl (by show ¬ 0 = _; omega)
    | [], [] => exact absurd hl (by show ¬ 0 = _; omega)
    | [], _ :: _ :: _ => exact absurd hl (by rw [hne]; show ¬ _ + 1 + 1 = 1; omega)
  · exact absurd rfl e
/-! ### the hook -/
structure SaysS (fb : PySem.W.Frag → Bool) (fa : List He.Fa) (fn : List He.DefD) (ts : List He.Tab) (tf : List He.Defn) (sm : List He5.DefA) (w : World) (h : Heap) (K : PySem.W.Frag) : Prop where
  x : SaysX fb fa fn ts w K
  s : He5.SaysA [] sm K
  hd : ∀ p ∈ tf, PySem.W.codeHdIn K (He.cT K p).1 (He.cT K p).2 = true
  out : ∀ p ∈ tf, K.lookup (He.cT K p).2 = none
  empty : ∀ p ∈ tf, h.get? (He.cT K p).2 = some { cls := .none, data := .fields #[] }
def asS (g : Addr → Option Obj) (n : Nat) : List Addr := asX g n ++ [cStatics]
def obsSG (n : Nat) (fb : PySem.W.Frag → Bool) (fa : List He.Fa) (fn : List He.DefD) (ts : List He.Tab) (tf : List He.Defn) (sm : List He5.DefA) (g : Addr → Option Obj) : (Bool × AlX) × He.AlD :=
  ((He.tabsB g tf (He.frT g (asS g n)), obsX fb fa fn ts (He.frT g (asS g n))), He5.obsA [] sm (He.frT g (asS g n)))
def hookS (n : Nat) (fb : PySem.W.Frag → Bool) (fa : List He.Fa) (fn : List He.DefD) (ts : List He.Tab) (tf : List He.Defn) (sm : List He5.DefA) : PySem.W.Hook where
  α := (Bool × AlX) × He.AlD
  obs := fun s => obsSG n fb fa fn ts tf sm s.heap.get?
  val := fun w => ((true, valX fn ts w), He5.valA sm)
  says := fun w h => ∃ K : PySem.W.Frag, K.In h ∧ SaysS fb fa fn ts tf sm w h K
  of := fun w s e => by
    have e1 : He.tabsB s.heap.get? tf (He.frT s.heap.get? (asS s.heap.get? n)) = true := congrArg (fun z : (Bool × AlX) × He.AlD => z.1.1) e
    have e2 : obsX fb fa fn ts (He.frT s.heap.get? (asS s.heap.get? n)) = valX fn ts w := congrArg (fun z : (Bool × AlX) × He.AlD => z.1.2) e
    have e3 : He5.obsA [] sm (He.frT s.heap.get? (asS s.heap.get? n)) = He5.valA sm := congrArg (fun z : (Bool × AlX) × He.AlD => z.2) e
    have key : ∀ p ∈ tf, PySem.W.codeHdIn (He.frT s.heap.get? (asS s.heap.get? n)) (He.cT (He.frT s.heap.get? (asS s.heap.get? n)) p).1 (He.cT (He.frT s.heap.get? (asS s.heap.get? n)) p).2 = true ∧ ∃ o, s.heap.get? (He.cT (He.frT s.heap.get? (asS s.heap.get? n)) p).2 = some o ∧ He.emptyTab o = true := fun p hp => by
      obtain ⟨h3, h4⟩ := He.ba (List.all_eq_true.mp e1 p hp)
      refine ⟨h3, ?_⟩
      cases q : s.heap.get? (He.cT (He.frT s.heap.get? (asS s.heap.get? n)) p).2 with
      | none =>
        rw [q] at h4
        cases h4
      | some o =>
        rw [q] at h4
        exact ⟨o, rfl, h4⟩
    refine ⟨_, He.frT_in, e2, e3, fun p hp => (key p hp).1, fun p hp => ?_, fun p hp => ?_⟩
    · obtain ⟨_, o, q, z⟩ := key p hp
      exact He.frT_none q z
    · obtain ⟨_, o, q, z⟩ := key p hp
      rw [q, He.emptyTab_eq z]
  keeps := fun _ _ _ ⟨K, hK, c⟩ k => ⟨K, PySem.W.Frag.In.keeps hK k, c.x, c.s, c.hd, c.out, fun p hp => k _ _ (c.empty p hp)⟩
theorem obsSG_eq {n : Nat} {fb : PySem.W.Frag → Bool} {fa : List He.Fa} {fn : List He.DefD} {ts : List He.Tab} {tf : List He.Defn} {sm : List He5.DefA} {g : Addr → Option Obj} {s : Shared} (h : ∀ a, g a = s.heap.get? a) : obsSG n fb fa fn ts tf sm g = (hookS n fb fa fn ts tf sm).obs s := by
  rw [show g = s.heap.get? from funext h]
  rfl
end Sz
/-! x + y by an own __add__, whatever stands on the right -/
namespace Sz
open PySem PySem.Spec PyProof.Rows L2
/-- what the class must have: its own def, no reflected one, it stands under object alone -/
structure AddC (K : PySem.W.Frag) (C f : Addr) : Prop where
  c1 : ∃ cd, PySem.W.clsIn K C = some cd ∧ cd.mro = [.ref C, .type "object"]
  at_ : PySem.W.findIn K (.ref C) "__add__" = some (some (.ref f))
  fn : PySem.W.isFn K (.ref f) = true
  nr : PySem.W.findIn K (.ref C) "__radd__" = some none
def addCB (K : PySem.W.Frag) (C : Str) : Bool := mroB K (He.ga K C) && (He.eqO (PySem.W.findIn K (.ref (He.ga K C)) "__add__") (some (some (.ref (He.ma K (He.ga K C) "__add__")))) &&
  (PySem.W.isFn K (.ref (He.ma K (He.ga K C) "__add__")) && He.eqO (PySem.W.findIn K (.ref (He.ga K C)) "__radd__") (some none)))
theorem addCB_ok {K : PySem.W.Frag} {C : Str} (h : addCB K C = true) : AddC K (He.ga K C) (He.ma K (He.ga K C) "__add__") := by
  obtain ⟨h1, h⟩ := He.ba h
  obtain ⟨h2, h⟩ := He.ba h
  obtain ⟨h3, h4⟩ := He.ba h
  exact ⟨mroB_ok h1, He.eqO_ok h2, h3, He.eqO_ok h4⟩
section
variable {K : PySem.W.Frag} {M : Model} {h : Heap} {C f : Addr}
theorem fills_ownC (X : K.In h) (a : AddC K C f) : PySem.W.Looks M h (fillsNumberSlot (.ref C) "add") true := by
  obtain ⟨cd, e1, e2⟩ := a.c1
  have L1 : PySem.W.Looks M h (mroOf (.ref C)) cd.mro := (PySem.W.looks_clsIn X e1).andThen .now
  have L2 : PySem.W.Looks M h (typeLookup (.ref C) "__add__") (some (.ref f)) := PySem.W.looks_findIn X a.at_
  unfold fillsNumberSlot
  refine PySem.W.Looks.andThen L1 ?_
  rw [e2]
  simp only [List.anyM]
  refine PySem.W.Looks.andThen (a := true) ?_ .now
  refine PySem.W.Looks.andThen (a := true) (PySem.W.Looks.andThen L2 ?_) .now
  exact .now
theorem python_ownC (X : K.In h) (a : AddC K C f) : PySem.W.Looks M h (numberSlotInPython (.ref C) "add") true := by
  have L2 : PySem.W.Looks M h (typeLookup (.ref C) "__add__") (some (.ref f)) := PySem.W.looks_findIn X a.at_
  have L3 : PySem.W.Looks M h (typeLookup (.ref C) "__radd__") none := PySem.W.looks_findIn X a.nr
  unfold numberSlotInPython
  refine PySem.W.Looks.andThen L2 ?_
  refine PySem.W.Looks.andThen (a := true) .now ?_
  refine PySem.W.Looks.andThen L3 ?_
  refine PySem.W.Looks.andThen (a := false) .now ?_
  exact .now
theorem fills_t {T : String} {r : Bool} (e : fillsNumberSlot (.type T) "add" = pure r) : PySem.W.Looks M h (fillsNumberSlot (.type T) "add") r := by
  rw [e]
  exact .now
end
theorem fn_none : fillsNumberSlot (.type "NoneType") "add" = pure false := by
  unfold fillsNumberSlot
  simp only [typeLookup_type, builtinLookup_eq_fast]
  kernel_rfl
theorem fn_int : fillsNumberSlot (.type "int") "add" = pure true := by
  unfold fillsNumberSlot
  simp only [typeLookup_type, builtinLookup_eq_fast]
  kernel_rfl
theorem fn_bool : fillsNumberSlot (.type "bool") "add" = pure true := by
  unfold fillsNumberSlot
  simp only [typeLookup_type, builtinLookup_eq_fast]
  kernel_rfl
theorem fn_str : fillsNumberSlot (.type "str") "add" = pure false := by
  unfold fillsNumberSlot
  simp only [typeLookup_type, builtinLookup_eq_fast]
  kernel_rfl
theorem fn_tuple : fillsNumberSlot (.type "tuple") "add" = pure false := by
  unfold fillsNumberSlot
  simp only [typeLookup_type, builtinLookup_eq_fast]
  kernel_rfl
theorem fn_list : fillsNumberSlot (.type "list") "add" = pure false := by
  unfold fillsNumberSlot
  simp only [typeLookup_type, builtinLookup_eq_fast]
  kernel_rfl
theorem fn_dict : fillsNumberSlot (.type "dict") "add" = pure false := by
  unfold fillsNumberSlot
  simp only [typeLookup_type, builtinLookup_eq_fast]
  kernel_rfl
theorem sub_int {C : Addr} : isSubtype (.type "int") (.ref C) = pure false := by
  unfold isSubtype mroOf
  kernel_rfl
theorem sub_bool {C : Addr} : isSubtype (.type "bool") (.ref C) = pure false := by
  unfold isSubtype mroOf
  kernel_rfl
theorem rl_int : ∃ x, typeLookup (.type "int") (dunderR "add") = pure x := ⟨some (.builtin "int.__radd__"), by rw [typeLookup_type, builtinLookup_eq_fast]; kernel_rfl⟩
theorem rl_bool : ∃ x, typeLookup (.type "bool") (dunderR "add") = pure x := ⟨some (.builtin "int.__radd__"), by rw [typeLookup_type, builtinLookup_eq_fast]; kernel_rfl⟩
/-- what may stand on the right -/
inductive AddT (K : PySem.W.Frag) (C : Addr) : Value → Prop where
  | self : AddT K C (.ref C)
  | own {D f : Addr} (a : AddK K C D f) : AddT K C (.ref D)
  | none : AddT K C (.type "NoneType")
  | str : AddT K C (.type "str")
  | tup : AddT K C (.type "tuple")
  | lst : AddT K C (.type "list")
  | dct : AddT K C (.type "dict")
  | int : AddT K C (.type "int")
  | bool : AddT K C (.type "bool")
section
variable {X : Cx} {CX : CXT} {k : Nat} {C : Str} {ps : List Str} {sp : Sp} {E : XK}
theorem try_own {pins : List (Addr × Obj)} {s : Shared} {σ : L2.St} {H : Hp} {Q : VK} {y : V} {u : Value} {p dx : Addr} {fs : List (Str × V)} {Q2 : Option Value → Shared → Prop} (a : AddC X.K (He.ga X.K C) (He.ma X.K (He.ga X.K C) "__add__")) (G : PromM X.prog X.w X.K X.mg X.base CX k C "__add__" ps sp) (hr : Room k X.A) (hx : Passes CX X E)
    (I : Inv X pins σ H s) (ry : RelV y u) (hp : H p = some (.ins (He.ga X.K C) dx fs)) (h : sp [.ref p, y] H Q E) (k2 : ∀ v s', EP X pins σ Q v s' → Q2 (some v) s') :
    wpAny (model X.prog X.w) X.A (tryMethod (.ref p) (dunder "add") u) Q2 X.xe s := by
  obtain ⟨m1, O1, _⟩ := ins_get I.hok hp
  obtain ⟨od1, J1, _⟩ := O1.look
  obtain ⟨fd, F, b⟩ := G.ex
  unfold tryMethod callSpecial? specialOf
  refine wpAny_bind (wpAny_bind (wpAny_bind (J1.type.here ((PySem.W.looks_findIn I.kIn a.at_).here ?_))))
  refine wpAny_holding (wpAny_bind ((PySem.W.bind_fn I.kIn (.ref p) (beq_iff_eq.mp a.fn)).here ?_))
  refine wpAny_bind (thn (run_fn (us := [.ref p, u]) (vs := [.ref p, y]) F hr b .nil hx I (.cons rfl (.cons ry .nil)) h) fun v s' hv => wpAny_pure ?_)
  have key := k2 v s' hv
  obtain ⟨x, H', I', r, q'⟩ := hv
  cases x with
  | non => cases (show v = Value.none from r); exact wpAny_pure key
  | bl c => cases (show v = Value.bool c from r); exact wpAny_pure key
  | int i => obtain ⟨t, rfl⟩ := (show ∃ t, v = Value.int i t from r); exact wpAny_pure key
  | str i => obtain ⟨t, rfl⟩ := (show ∃ t, v = Value.str i t from r); exact wpAny_pure key
  | byt i => obtain ⟨t, rfl⟩ := (show ∃ t, v = Value.bytes i t from r); exact wpAny_pure key
  | flt i => obtain ⟨t, rfl⟩ := (show ∃ t, v = Value.float i t from r); exact wpAny_pure key
  | ref a => cases (show v = Value.ref a from r); exact wpAny_pure key
  | ty n => cases (show v = Value.type n from r); exact wpAny_pure key
def rAddG (K : PySem.W.Frag) (C : Str) (sp : Sp) (E : XK) : R2 := fun x y H Q => ∃ p dx fs t, x = V.ref p ∧ H p = some (.ins (He.ga K C) dx fs) ∧ TyX K H y t ∧ AddT K (He.ga K C) t ∧ sp [.ref p, y] H Q E
/-- x + y: x an instance of C with its own __add__ -/
theorem op_addG (a : AddC X.K (He.ga X.K C) (He.ma X.K (He.ga X.K C) "__add__")) (G : PromM X.prog X.w X.K X.mg X.base CX k C "__add__" ps sp) (hr : Room k X.A) (hx : Passes CX X E) :
    OpR X (binaryOp .Add) (rAddG X.K C sp E) := by
  intro pins s σ H x y v u Q I rx ry h
  obtain ⟨p, dx, fs, t, rfl, hp, ty, at_, h⟩ := h
  obtain rfl : v = Value.ref p := rx
  obtain ⟨m1, O1, _⟩ := ins_get I.hok hp
  obtain ⟨od1, J1, _⟩ := O1.look
  obtain ⟨Pt, kx, hPt, _⟩ := kit_of I ry ty
  have tyU := kx.ty (model X.prog X.w) _ I.kIn hPt
  unfold binaryOp
  refine wpAny_holding ?_
  show wpAny _ _ (binaryOp1 "add" (.ref p) u >>= _) _ _ s
  refine wpAny_bind ?_
  have slow : ∀ {T : Value}, PySem.W.Looks (model X.prog X.w) s.heap (typeOf u) T → (Value.ref (He.ga X.K C) == T) = false → PySem.W.Looks (model X.prog X.w) s.heap (fillsNumberSlot T "add") false → wpAny (model X.prog X.w) X.A (binaryOp1 "add" (.ref p) u) (fun r s2 => ∃ v, r = some v ∧ EP X pins σ Q v s2) X.xe s := by
    intro T tyU ne fl
    unfold binaryOp1
    refine wpAny_bind (J1.type.here (wpAny_bind (tyU.here (wpAny_bind ((fills_ownC I.kIn a).here ?_)))))
    rw [ne]
    refine wpAny_bind (fl.here ?_)
    simp only [Bool.and_false, Bool.false_and, Bool.false_eq_true, if_false, if_true]
    refine wpAny_bind (wpAny_pure ?_)
    simp only [Bool.false_eq_true, if_false]
    refine wpAny_bind (try_own a G hr hx I ry hp h fun v s' hv => ?_)
    exact wpAny_pure ⟨v, rfl, hv⟩
  have num : ∀ {T : String}, PySem.W.Looks (model X.prog X.w) s.heap (typeOf u) (.type T) → PySem.W.Looks (model X.prog X.w) s.heap (fillsNumberSlot (.type T) "add") true → isSubtype (.type T) (.ref (He.ga X.K C)) = pure false → (∃ x, typeLookup (.type T) (dunderR "add") = pure x) → wpAny (model X.prog X.w) X.A (binaryOp1 "add" (.ref p) u) (fun r s2 => ∃ v, r = some v ∧ EP X pins σ Q v s2) X.xe s := by
    intro T tyU fl su rl
    unfold binaryOp1
    refine wpAny_bind (J1.type.here (wpAny_bind (tyU.here (wpAny_bind ((fills_ownC I.kIn a).here ?_)))))
    have ne : (Value.ref (He.ga X.K C) == Value.type T) = false := by rfl
    rw [ne]
    refine wpAny_bind (fl.here ?_)
    simp only [Bool.and_true, Bool.and_self, if_true]
    refine wpAny_bind ?_
    rw [su]
    refine wpAny_pure ?_
    simp only [Bool.false_eq_true, if_false, Bool.not_false, Bool.and_true, if_true]
    refine wpAny_bind ((python_ownC I.kIn a).here ?_)
    simp only [if_true]
    refine wpAny_bind ((show PySem.W.Looks (model X.prog X.w) s.heap (numberSlotInPython (.type T) "add") false from .now).here ?_)
    simp only [Bool.not_false, if_true]
    obtain ⟨xr, hxr⟩ := rl
    rw [hxr]
    refine wpAny_bind (wpAny_pure ?_)
    refine wpAny_bind (try_own a G hr hx I ry hp h fun v s' hv => ?_)
    exact wpAny_pure ⟨v, rfl, hv⟩
  refine wpAny_mono (Q := fun r s2 => ∃ v, r = some v ∧ EP X pins σ Q v s2) ?_ (fun r s2 hv => ?_) fun _ _ z => z
  · cases at_ with
    | self =>
      unfold binaryOp1
      refine wpAny_bind (J1.type.here (wpAny_bind (tyU.here (wpAny_bind ((fills_ownC I.kIn a).here ?_)))))
      have ne : (Value.ref (He.ga X.K C) == Value.ref (He.ga X.K C)) = true := by simp
      rw [ne]
      refine wpAny_bind (wpAny_pure ?_)
      simp only [Bool.and_false, Bool.false_and, Bool.false_eq_true, if_false, if_true]
      refine wpAny_bind (wpAny_pure ?_)
      simp only [Bool.false_eq_true, if_false]
      refine wpAny_bind (try_own a G hr hx I ry hp h fun v s' hv => ?_)
      exact wpAny_pure ⟨v, rfl, hv⟩
    | own a2 => exact slow tyU (by rw [beq_eq_false_iff_ne]; exact fun z => a2.ne (by injection z)) (fills_none I.kIn a2)
    | none => exact slow tyU rfl (fills_t fn_none)
    | str => exact slow tyU rfl (fills_t fn_str)
    | tup => exact slow tyU rfl (fills_t fn_tuple)
    | lst => exact slow tyU rfl (fills_t fn_list)
    | dct => exact slow tyU rfl (fills_t fn_dict)
    | bool => exact num tyU (fills_t fn_bool) sub_bool rl_bool
    | int => exact num tyU (fills_t fn_int) sub_int rl_int
  · obtain ⟨v, rfl, hv⟩ := hv
    exact wpAny_pure hv
end
end Sz
/-! a != b, two lists whose items are the same: flat, one object, or lists again -/
namespace Sz
open PySem PySem.Spec PyProof.Rows L2
def EqL (K : PySem.W.Frag) (H : Hp) : Nat → V → V → Prop
  | 0 => fun _ _ => False
  | n + 1 => fun x y => (x = y ∧ flatB x = true) ∨ (∃ a, x = .ref a ∧ y = .ref a) ∨ ∃ (a b : Addr) (xs ys : List V), x = .ref a ∧ y = .ref b ∧ SqL K H a xs ∧ SqL K H b ys ∧ Paired (EqL K H n) xs ys
theorem items_at {A : Around} {s : Shared} {F : V → V → Prop} (ih : ∀ x y v u, F x y → RelV x v → RelV y u → SeqAt.EqAt A s v u true) {xs ys : List V} (hp : Paired F xs ys) :
    ∀ {us ws : List Value}, Vals xs us → Vals ys ws → ∀ j (h1 : j < us.length) (h2 : j < ws.length), SeqAt.EqAt A s us[j] ws[j] true := by
  induction hp with
  | nil =>
    intro us ws r1 r2 j h1 h2
    cases r1
    exact absurd h1 (Nat.not_lt_zero j)
  | cons h _ k =>
    intro us ws r1 r2 j h1 h2
    cases r1 with
    | cons a1 b1 =>
      cases r2 with
      | cons a2 b2 =>
        cases j with
        | zero => exact ih _ _ _ _ h a1 a2
        | succ j => exact k b1 b2 j (Nat.lt_of_succ_lt_succ h1) (Nat.lt_of_succ_lt_succ h2)
section
variable {X : Cx} {pins : List (Addr × Obj)} {σ : L2.St} {H : Hp} {s : Shared}
theorem eqL_at (I : Inv X pins σ H s) : ∀ (n : Nat) (A : Around), A.units + n < cLine → ∀ (x y : V) (v u : Value), EqL X.K H n x y → RelV x v → RelV y u → SeqAt.EqAt A s v u true
  | 0, _, _, _, _, _, _, h, _, _ => (show False from h).elim
  | n + 1, A, hu, x, y, v, u, h, rx, ry => by
    rcases h with ⟨rfl, f⟩ | ⟨a, rfl, rfl⟩ | ⟨a, b, xs, ys, rfl, rfl, ha, hb, hp⟩
    · exact eqAt_same rx ry f
    · cases (show v = Value.ref a from rx)
      cases (show u = Value.ref a from ry)
      exact SeqAt.EqAt.same _
    · cases (show v = Value.ref a from rx)
      cases (show u = Value.ref b from ry)
      by_cases e : a = b
      · subst e
        exact SeqAt.EqAt.same _
      · obtain ⟨us, r1, p1, _⟩ := I.list ha
        obtain ⟨ws, r2, p2, _⟩ := I.list hb
        have hsz : us.toArray.size = ws.toArray.size := by
          rw [List.size_toArray, List.size_toArray, ← r1.length, ← r2.length]
          exact Paired.length hp
        have step : SeqAt.RcAt A s (.ref a) (.ref b) ((List.range us.toArray.size).all fun _ => true) := SeqAt.RcAt.lists (e := fun _ => true) p1.isList p2.isList hsz (by omega) (fun j h1 h2 => by
          have k := items_at (eqL_at I n A.in1 (by show A.units + 1 + n < cLine; omega)) hp r1 r2 j (by simpa using h1) (by simpa using h2)
          simpa using k)
        rw [show ((List.range us.toArray.size).all fun _ => true) = true from List.all_eq_true.mpr fun _ _ => rfl] at step
        exact SeqAt.EqAt.of_refs e step
end
def rNeL (K : PySem.W.Frag) : R2 := fun x y H Q => ∃ n, n ≤ 60 ∧ (∃ (a b : Addr) (xs ys : List V), x = .ref a ∧ y = .ref b ∧ SqL K H a xs ∧ SqL K H b ys ∧ Paired (EqL K H n) xs ys) ∧ Q (.bl false) H
theorem op_neL {X : Cx} (hu : X.A.units + 64 < cLine) : OpR X (compareOp .NotEq) (rNeL X.K) := by
  intro pins s σ H x y v u Q I rx ry h
  obtain ⟨n, hn, ⟨a, b, xs, ys, rfl, rfl, ha, hb, hp⟩, q⟩ := h
  cases (show v = Value.ref a from rx)
  cases (show u = Value.ref b from ry)
  obtain ⟨us, r1, p1, _⟩ := I.list ha
  obtain ⟨ws, r2, p2, _⟩ := I.list hb
  have hsz : us.toArray.size = ws.toArray.size := by
    rw [List.size_toArray, List.size_toArray, ← r1.length, ← r2.length]
    exact Paired.length hp
  have step := SeqAt.RcNeAt.lists (A := X.A) (e := fun _ => true) p1.isList p2.isList hsz (by omega) (fun j h1 h2 => by
    have k := items_at (eqL_at I n X.A.in1 (by show X.A.units + 1 + n < cLine; omega)) hp r1 r2 j (by simpa using h1) (by simpa using h2)
    simpa using k)
  rw [show ((List.range us.toArray.size).all fun _ => true) = true from List.all_eq_true.mpr fun _ _ => rfl] at step
  exact step X.prog X.w _ _ ⟨.bl false, H, I, rfl, q⟩
end Sz
/-! bool(x) by an own __len__ -/
namespace Sz
open PySem PySem.Spec PyProof.Rows L2 PySem.Calls PySem.W Builtin
section
variable {prog : Program} {w : World} {A : Around} {E : Value → Shared → Prop} {s : Shared} {K : Frag} {x C L f : Addr} {h₀ : Heap} {m : Str → Option Value} {ox : Obj} {od : Option Obj}
theorem len_bodyO {Q : Value → Shared → Prop} (X : K.In s.heap) (I : W.InstAt s.heap x ox C od) (hs : findIn K (.ref C) "__len__" = some (some (.ref f))) (hf : isFn K (.ref f) = true)
    (h : wpAny (model prog w) A (call (.ref f) [.ref x]) (W.LenBack Q) E s) : wpAny (model prog w) A (Builtin.«len» ⟨[.ref x], []⟩) (fun fin s' => ∃ r, fin = .done (.ret r) ∧ Q r s') E s := by
  unfold Builtin.«len»
  refine wpAny_bind (m := oneArg "len" _) (wpAny_pure ?_)
  refine wpAny_bind (m := callSpecial? (.ref x) (Str.ofString "__len__")) (special_fn X I hs (beq_iff_eq.mp hf) (wpAny_mono h (fun r s' q => ?_) fun _ _ y => y))
  cases r with
  | int n u =>
    obtain ⟨⟨h0, h1⟩, q⟩ := (show (0 ≤ n ∧ n < 2 ^ 63) ∧ Q (.int n s'.toks) { s' with toks := s'.toks + 1 } from q)
    refine wpAny_bind (wpAny_holding (wpAny_pure ?_)) ; refine wpAny_bind (wpAny_letGo ?_)
    show wpAny _ _ (if n < 0 then _ else _) _ _ _ ; rw [if_neg (by omega)]
    show wpAny _ _ (if n ≥ 2 ^ 63 then _ else _) _ _ _ ; rw [if_neg (by omega)]
    exact wpAny_bind (wpAny_mkInt (wpAny_pure ⟨_, rfl, q⟩))
  | _ => exact q.elim
theorem truthy_len {Q : Bool → Shared → Prop} (X : K.In s.heap) (I : W.InstAt s.heap x ox C od) (hb : findIn K (.ref C) "__bool__" = some none) (hs : findIn K (.ref C) "__len__" = some (some (.ref f))) (hf : isFn K (.ref f) = true)
    (h : wpAny (model prog w) A.in1 (call (.ref f) [.ref x]) (W.LenBack fun v s' => ∃ (n : Int) (t : Tok), v = .int n t ∧ Q (n != 0) s') E s) : wpAny (model prog w) A (truthy (.ref x)) Q E s := by
  have key : wpAny (model prog w) A (runValue (.builtin "len" ⟨[.ref x], []⟩)) (fun v s' => ∃ (n : Int) (t : Tok), v = .int n t ∧ Q (n != 0) s') E s := by
    refine wpAny_runValue (codeAny_builtin entry_len ?_)
    rw [Around.under_plainId plain_len _]
    exact wpAny_mono (len_bodyO (A := A.in1) X I hs hf h) (fun fin s' q => by obtain ⟨r, rfl, q⟩ := q; exact q) fun _ _ e => e
  unfold truthy
  refine wpAny_bind (m := callSpecial? (.ref x) (Str.ofString "__bool__")) (wpAny_bind (wpAny_bind (I.type.here ((looks_findIn X hb).here (wpAny_pure ?_)))))
  refine wpAny_bind (wpAny_bind (I.type.here ((looks_findIn X hs).here ?_)))
  refine wpAny_bind (wpAny_mono key (fun v s' q => ?_) fun _ _ e => e)
  obtain ⟨n, t, rfl, q⟩ := q
  exact wpAny_pure q
theorem meets_bool_len (l : Addr) : MeetsIn prog w (Builtin.«bool.__new__» ⟨[.type "bool", .ref l], []⟩) (fun A R s => wpAny (model prog w) A.in1 (truthy (.ref l)) (fun b s' => R (.ok (.ret (.bool b))) s') (fun e s' => R (.error e) s') s) :=
  .of_wp fun A R s h => by
    have f1 := F.conv_sub_bool
    have ht : ∀ {Q' : Bool → Shared → Prop} {E' : Value → Shared → Prop}, (∀ b s', R (.ok (.ret (.bool b))) s' → Q' b s') → (∀ e s', R (.error e) s' → E' e s') → wpAny (model prog w) A.in1 (truthy (.ref l)) Q' E' s := fun h1 h2 => wpAny_mono h h1 h2
    obtain ⟨hp, g, d, tk, os⟩ := s
    repeat (any_goals (first | assumption | (with_reducible refine ht (fun b s' q => ?_) (fun e s' q => q)) | wp_step))
    all_goals first | exact ⟨_, rfl, q⟩ | trace_state
variable {X : Cx} {CX : CXT} {k : Nat} {ps : List Str} {sp : Sp} {E0 : XK} {D : Str}
theorem call_boolL (G : PromM X.prog X.w X.K X.mg X.base CX k D "__len__" ps sp) (hb : findIn X.K (.ref (He.ga X.K D)) "__bool__" = some none) (hr : Room (k + 3) X.A) (hx : Passes CX X E0) :
    CallR X (.type "bool") (fun xs H Q => ∃ p dx fs, xs = [.ref p] ∧ H p = some (.ins (He.ga X.K D) dx fs) ∧ sp [.ref p] H (fun v H' => ∃ n : Int, v = .int n ∧ 0 ≤ n ∧ n < 2 ^ 63 ∧ Q (.bl (n != 0)) H') E0) := by
  intro pins s σ H xs us Q I r h
  obtain ⟨p, dx, fs, rfl, hp, h⟩ := h
  obtain ⟨u, rfl, ru⟩ := vals1 r
  obtain rfl : u = Value.ref p := ru
  obtain ⟨m1, O1, _⟩ := ins_get I.hok hp
  obtain ⟨od1, J1, _⟩ := O1.look
  have r2 : Room k X.A.in1.in1.in1 := hr.in1.in1.in1
  refine callType_newIn F.called_bool F.newNe_bool (F.typeCall_bool_1 (.ref p)) (F.newCall_bool_1 (.ref p)) (fun obj => F.args_object_init_2 obj (.ref p)) F.entry_bool_new (meets_bool_len p) ?_
  refine truthy_len I.kIn J1 hb G.me.at_ G.me.fn ?_
  refine wpAny_mono (run_own G hx (A := X.A.in1.in1.in1) ⟨r2, rfl⟩ (vs := [.ref p]) (us := [.ref p]) I (.cons rfl .nil) h) (fun v s' z => ?_) fun _ _ y => y
  obtain ⟨z, H', I', rz, n, rfl, n0, n1, q⟩ := z
  obtain ⟨t, rfl⟩ := (show ∃ t, v = Value.int n t from rz)
  exact ⟨⟨n0, n1⟩, n, _, rfl, rfl, .bl _, H', I'.tok _, rfl, q⟩
end
end Sz
/-! == and != of instances of a class without own ones -/
namespace Sz
open PySem PySem.Spec PyProof.Rows L2
structure CmpI (K : PySem.W.Frag) (C : Addr) : Prop where
  eq : PySem.W.findIn K (.ref C) "__eq__" = some (some (.builtin "object.__eq__"))
  ne : PySem.W.findIn K (.ref C) "__ne__" = some (some (.builtin "object.__ne__"))
  m : PySem.W.mroIn K C (.type "object") = some true
def cmpIB (K : PySem.W.Frag) (C : Addr) : Bool := He.eqO (PySem.W.findIn K (.ref C) "__eq__") (some (some (.builtin "object.__eq__"))) && (He.eqO (PySem.W.findIn K (.ref C) "__ne__") (some (some (.builtin "object.__ne__"))) && decide (PySem.W.mroIn K C (.type "object") = some true))
theorem cmpI_ok {K : PySem.W.Frag} {C : Addr} (h : cmpIB K C = true) : CmpI K C := by
  obtain ⟨h1, h⟩ := He.ba h
  obtain ⟨h2, h3⟩ := He.ba h
  exact ⟨He.eqO_ok h1, He.eqO_ok h2, of_decide_eq_true h3⟩
section
variable {M : Model} {prog : Program} {w : World} {A : Around} {E : Value → Shared → Prop} {s : Shared} {K : PySem.W.Frag} {x y C : Addr} {ox oy : Obj} {od od' : Option Obj}
theorem nt_of (I : PySem.W.InstAt s.heap x ox C od) : ox.cls ≠ .type "tuple" := by
  rw [I.cls]
  exact fun e => by cases e
theorem oe_same {Q : Value → Shared → Prop} (X : K.In s.heap) (I : PySem.W.InstAt s.heap x ox C od) (F0 : CmpI K C) (hq : Q (.bool true) s) : wpAny (model prog w) A (call (.builtin "object.__eq__") [.ref x, .ref x]) Q E s :=
  wpAny_call (codeAny_call_builtin F.cmp_object.eq.plain F.cmpEntry_eq (PySem.W.check_slot F.cmpKind_eq F.cmpSplit_eq (I.type.andThen (PySem.W.looks_mroIn X F0.m)) (F.cmpArgs_eq _ _) (objEq_entry_same hq)))
theorem oe_other {Q : Value → Shared → Prop} (X : K.In s.heap) (I : PySem.W.InstAt s.heap x ox C od) (J : PySem.W.InstAt s.heap y oy C od') (n : x ≠ y) (F0 : CmpI K C) (hq : Q .notImplemented s) : wpAny (model prog w) A (call (.builtin "object.__eq__") [.ref x, .ref y]) Q E s :=
  wpAny_call (codeAny_call_builtin F.cmp_object.eq.plain F.cmpEntry_eq (PySem.W.check_slot F.cmpKind_eq F.cmpSplit_eq (I.type.andThen (PySem.W.looks_mroIn X F0.m)) (F.cmpArgs_eq _ _) (objEq_entry_other n I.at_ J.at_ (nt_of I) hq)))
theorem oe_str {z : Str} {t : Tok} {Q : Value → Shared → Prop} (X : K.In s.heap) (I : PySem.W.InstAt s.heap x ox C od) (F0 : CmpI K C) (hq : Q .notImplemented s) : wpAny (model prog w) A (call (.builtin "object.__eq__") [.ref x, .str z t]) Q E s := by
  refine wpAny_call (codeAny_call_builtin F.cmp_object.eq.plain F.cmpEntry_eq (PySem.W.check_slot F.cmpKind_eq F.cmpSplit_eq (I.type.andThen (PySem.W.looks_mroIn X F0.m)) (F.cmpArgs_eq _ _) ?_))
  unfold Builtin.«object.__eq__»
  have e : ∀ {R : Bool → Shared → Prop} {M : Model} {A : Around} {E : Value → Shared → Prop}, R false s → wpAny M A (isSame (.ref x) (.str z t)) R E s := fun h => wpAny_of_eq (rfl : isSame (.ref x) (.str z t) = pure false) h
  repeat (first | with_reducible refine e ?_ | wp_step)
  exact hq
theorem ib_gen {nm : Str} {id : String} {args : List Value} {Q : Option Value → Shared → Prop} (X : K.In s.heap) (I : PySem.W.InstAt s.heap x ox C od) (hs : PySem.W.findIn K (.ref C) nm = some (some (.builtin id))) (S : Slot "object" nm id)
    (h : wpAny M A (call (.builtin id) (.ref x :: args)) (fun v => Q (some v)) E s) : wpAny M A (callSpecialIfBound? (.ref x) nm args) Q E s := by
  simp only [callSpecialIfBound?, bindSpecialIfBound?]
  refine wpAny_holding (wpAny_bind (wpAny_bind (wpAny_bind (I.type.here ((PySem.W.looks_findIn X hs).here ?_)))))
  refine wpAny_bind (wpAny_askSetting (wpAny_ite ?_))
  have fin : wpAny M A (call (.builtin id) ([.ref x] ++ args) >>= fun v => pure (some v)) Q E s := wpAny_bind (wpAny_mono h (fun _ _ q => wpAny_pure q) fun _ _ q => q)
  split
  · exact wpAny_bind (wpAny_of_eq (S.bind _) (wpAny_pure (by exact fin)))
  · exact wpAny_tryCatch (wpAny_bind (wpAny_of_eq (S.bind _) (wpAny_pure (by exact fin))))
theorem tc_same {Q : Option Value → Shared → Prop} (X : K.In s.heap) (I : PySem.W.InstAt s.heap x ox C od) (F0 : CmpI K C) (hq : Q (some (.bool true)) s) : wpAny (model prog w) A (tryCompare (.ref x) "__eq__" (.ref x)) Q E s := by
  unfold tryCompare
  exact wpAny_bind (ib_gen X I F0.eq F.cmp_object.eq (oe_same X I F0 (wpAny_pure hq)))
theorem tc_other {Q : Option Value → Shared → Prop} (X : K.In s.heap) (I : PySem.W.InstAt s.heap x ox C od) (J : PySem.W.InstAt s.heap y oy C od') (n : x ≠ y) (F0 : CmpI K C) (hq : Q none s) : wpAny (model prog w) A (tryCompare (.ref x) "__eq__" (.ref y)) Q E s := by
  unfold tryCompare
  exact wpAny_bind (ib_gen X I F0.eq F.cmp_object.eq (oe_other X I J n F0 (wpAny_pure hq)))
theorem tn_same {Q : Option Value → Shared → Prop} (hu : A.units + 1 < cLine) (X : K.In s.heap) (I : PySem.W.InstAt s.heap x ox C od) (F0 : CmpI K C) (hq : Q (some (.bool false)) s) : wpAny (model prog w) A (tryCompare (.ref x) "__ne__" (.ref x)) Q E s := by
  unfold tryCompare
  refine wpAny_bind (ib_gen X I F0.ne F.cmp_object.ne (wpAny_call (codeAny_call_builtin F.cmp_object.ne.plain F.cmpEntry_ne (PySem.W.check_slot F.cmpKind_ne F.cmpSplit_ne (I.type.andThen (PySem.W.looks_mroIn X F0.m)) (F.cmpArgs_ne _ _) ?_))))
  unfold Builtin.«object.__ne__»
  have hu1 : A.in1.units < cLine := hu
  have e : ∀ {Q' : Option Value → Shared → Prop} {E' : Value → Shared → Prop}, Q' (some (.bool true)) s → wpAny (model prog w) A.in1 (callSpecialIfBound? (.ref x) "__eq__" [.ref x]) Q' E' s := fun h => ib_gen X I F0.eq F.cmp_object.eq (oe_same X I F0 h)
  repeat (first | with_reducible refine wpAny_cRoomFor hu1 ?_ | with_reducible refine e ?_ | wp_step)
  exact hq
theorem tn_other {Q : Option Value → Shared → Prop} (hu : A.units + 1 < cLine) (X : K.In s.heap) (I : PySem.W.InstAt s.heap x ox C od) (J : PySem.W.InstAt s.heap y oy C od') (n : x ≠ y) (F0 : CmpI K C) (hq : Q none s) : wpAny (model prog w) A (tryCompare (.ref x) "__ne__" (.ref y)) Q E s := by
  unfold tryCompare
  refine wpAny_bind (ib_gen X I F0.ne F.cmp_object.ne (wpAny_call (codeAny_call_builtin F.cmp_object.ne.plain F.cmpEntry_ne (PySem.W.check_slot F.cmpKind_ne F.cmpSplit_ne (I.type.andThen (PySem.W.looks_mroIn X F0.m)) (F.cmpArgs_ne _ _) ?_))))
  unfold Builtin.«object.__ne__»
  have hu1 : A.in1.units < cLine := hu
  have e : ∀ {Q' : Option Value → Shared → Prop} {E' : Value → Shared → Prop}, Q' (some .notImplemented) s → wpAny (model prog w) A.in1 (callSpecialIfBound? (.ref x) "__eq__" [.ref y]) Q' E' s := fun h => ib_gen X I F0.eq F.cmp_object.eq (oe_other X I J n F0 h)
  repeat (first | with_reducible refine wpAny_cRoomFor hu1 ?_ | with_reducible refine e ?_ | wp_step)
  exact hq
theorem rc_same {Q : Value → Shared → Prop} (hu : A.units < cLine) (X : K.In s.heap) (I : PySem.W.InstAt s.heap x ox C od) (F0 : CmpI K C) (hq : Q (.bool true) s) : wpAny (model prog w) A (richCompare .Eq (.ref x) (.ref x)) Q E s := by
  simp only [richCompare, cmpInfo_Eq, oneThing_ref]
  refine wpAny_holding (wpAny_bind (wpAny_cRoomFor hu ?_))
  refine wpAny_bind (I.type.here (wpAny_bind (I.type.here ?_)))
  rw [if_neg (by simp)]
  repeat (first | with_reducible refine tc_same X I F0 ?_ | wp_step)
  exact hq
theorem rc_other {Q : Value → Shared → Prop} (hu : A.units < cLine) (X : K.In s.heap) (I : PySem.W.InstAt s.heap x ox C od) (J : PySem.W.InstAt s.heap y oy C od') (n : x ≠ y) (F0 : CmpI K C) (hq : Q (.bool false) s) : wpAny (model prog w) A (richCompare .Eq (.ref x) (.ref y)) Q E s := by
  simp only [richCompare, cmpInfo_Eq, oneThing_ref]
  refine wpAny_holding (wpAny_bind (wpAny_cRoomFor hu ?_))
  refine wpAny_bind (I.type.here (wpAny_bind (J.type.here ?_)))
  rw [if_neg (by simp)]
  repeat (first | with_reducible refine tc_other X I J n F0 ?_ | with_reducible refine tc_other X J I n.symm F0 ?_ | with_reducible refine wpAny_isSame_ref_other n I.at_ J.at_ (nt_of I) ?_ | wp_step)
  exact hq
theorem rn_same {Q : Value → Shared → Prop} (hu : A.units + 1 < cLine) (X : K.In s.heap) (I : PySem.W.InstAt s.heap x ox C od) (F0 : CmpI K C) (hq : Q (.bool false) s) : wpAny (model prog w) A (richCompare .NotEq (.ref x) (.ref x)) Q E s := by
  have hu0 : A.units < cLine := by omega
  simp only [richCompare, cmpInfo_NotEq, oneThing_ref]
  refine wpAny_holding (wpAny_bind (wpAny_cRoomFor hu0 ?_))
  refine wpAny_bind (I.type.here (wpAny_bind (I.type.here ?_)))
  rw [if_neg (by simp)]
  repeat (first | with_reducible refine tn_same hu X I F0 ?_ | wp_step)
  exact hq
theorem rn_other {Q : Value → Shared → Prop} (hu : A.units + 1 < cLine) (X : K.In s.heap) (I : PySem.W.InstAt s.heap x ox C od) (J : PySem.W.InstAt s.heap y oy C od') (n : x ≠ y) (F0 : CmpI K C) (hq : Q (.bool true) s) : wpAny (model prog w) A (richCompare .NotEq (.ref x) (.ref y)) Q E s := by
  have hu0 : A.units < cLine := by omega
  simp only [richCompare, cmpInfo_NotEq, oneThing_ref]
  refine wpAny_holding (wpAny_bind (wpAny_cRoomFor hu0 ?_))
  refine wpAny_bind (I.type.here (wpAny_bind (J.type.here ?_)))
  rw [if_neg (by simp)]
  repeat (first | with_reducible refine tn_other hu X I J n F0 ?_ | with_reducible refine tn_other hu X J I n.symm F0 ?_ | with_reducible refine wpAny_isSame_ref_other n I.at_ J.at_ (nt_of I) ?_ | wp_step)
  exact hq
theorem sub_strT : PySem.W.subIn K (.type "str") (.ref C) = some false := by
  have e : fastBuiltinMro "str" = some [.type "str", .type "object"] := by decide +kernel
  show (fastBuiltinMro "str").map (·.contains (.ref C)) = some false
  rw [e]
  first
    | rfl
    | simp
theorem asStr_no {M : Model} {A : Around} {E : Value → Shared → Prop} {R : Option Str → Shared → Prop} (hx : s.heap.get? x = some ox) (hd : ∀ a b, ox.data ≠ .prim (.str a b)) (h : R none s) : wpAny M A (asStr? (.ref x)) R E s := by
  unfold asStr?
  refine wpAny_bind (wpAny_load hx ?_)
  split
  · rename_i a b e
    exact absurd e (hd a b)
  · exact wpAny_pure h
theorem str_eq_call {z : Str} {t : Tok} {Q : Value → Shared → Prop} (hx : s.heap.get? x = some ox) (hd : ∀ a b, ox.data ≠ .prim (.str a b)) (hq : Q .notImplemented s) : wpAny (model prog w) A (call (.builtin "str.__eq__") [.str z t, .ref x]) Q E s := by
  refine GQ.call_here F.slot_str_eq_refl (typeIs_str s z t) F.entry_str_eq (F.args_str_eq_2 _ _) ?_
  have e : ∀ {M : Model} {A : Around} {E : Value → Shared → Prop} {R : Option Str → Shared → Prop}, R none s → wpAny M A (asStr? (.ref x)) R E s := fun h => asStr_no hx hd h
  obtain ⟨hp, g, d, tk, os⟩ := s
  repeat (first | with_reducible refine e ?_ | wp_step)
  split
  · rename_i a b e2
    exact absurd e2 (hd a b)
  · repeat wp_step
    exact hq
theorem rc_str {z : Str} {t : Tok} {Q : Value → Shared → Prop} (hu : A.units < cLine) (X : K.In s.heap) (I : PySem.W.InstAt s.heap x ox C od) (F0 : CmpI K C) (hd : ∀ a b, ox.data ≠ .prim (.str a b)) (hq : Q (.bool false) s) : wpAny (model prog w) A (richCompare .Eq (.ref x) (.str z t)) Q E s := by
  have one : wpAny (model prog w) A (tryCompare (.ref x) "__eq__" (.str z t)) (fun r s' => r = none ∧ s' = s) E s := by
    unfold tryCompare
    exact wpAny_bind (ib_gen X I F0.eq F.cmp_object.eq (oe_str X I F0 (wpAny_pure ⟨rfl, rfl⟩)))
  have two : wpAny (model prog w) A (tryCompare (.str z t) "__eq__" (.ref x)) (fun r s' => r = none ∧ s' = s) E s :=
    wpAny_tryCompare_declines (typeIs_str s z t) F.slot_str_eq_refl (str_eq_call I.at_ hd ⟨rfl, rfl, rfl⟩)
  simp only [richCompare, cmpInfo_Eq, oneThing_ref]
  refine wpAny_holding (wpAny_bind (wpAny_cRoomFor hu ?_))
  refine wpAny_bind (I.type.here ?_)
  refine wpAny_bind (wpAny_typeOf (typeIs_str s z t) ?_)
  split
  · refine wpAny_bind ((PySem.W.looks_subIn X sub_strT).here ?_)
    simp only [Bool.false_eq_true, if_false, Bool.not_false, if_true]
    refine wpAny_bind (m := tryCompare (.ref x) _ (.str z t)) (wpAny_mono one (fun r s1 q => ?_) fun _ _ q => q)
    obtain ⟨rfl, rfl⟩ := q
    refine wpAny_bind (m := tryCompare (.str z t) _ (.ref x)) (wpAny_mono two (fun r s1 q => ?_) fun _ _ q => q)
    obtain ⟨rfl, rfl⟩ := q
    exact wpAny_bind (wpAny_rule (wpAny_bind (wpAny_of_eq (rfl : isSame (.ref x) (.str z t) = pure false) (wpAny_pure hq))))
  · rename_i q
    exact absurd (by simp) q
end
section
variable {X : Cx} {C : Str}
theorem op_eqI (F0 : CmpI X.K (He.ga X.K C)) (hu : X.A.units + 64 < cLine) : OpR X (compareOp .Eq) (fun x y H Q => ∃ (p dx : Addr) (fs : List (Str × V)), x = .ref p ∧ H p = some (.ins (He.ga X.K C) dx fs) ∧
    ((∃ (q dy : Addr) (gs : List (Str × V)), y = .ref q ∧ H q = some (.ins (He.ga X.K C) dy gs) ∧ Q (.bl (decide (p = q))) H) ∨ ∃ z, y = .str z ∧ Q (.bl false) H)) := by
  intro pins s σ H x y v u Q I rx ry h
  obtain ⟨p, dx, fs, rfl, hp, h⟩ := h
  obtain rfl : v = Value.ref p := rx
  obtain ⟨m1, O1, _⟩ := ins_get I.hok hp
  obtain ⟨od1, J1, _⟩ := O1.look
  show wpAny (model X.prog X.w) X.A (richCompare .Eq (.ref p) u) (EP X pins σ Q) X.xe s
  rcases h with ⟨q, dy, gs, rfl, hq, k⟩ | ⟨z, rfl, k⟩
  · obtain rfl : u = Value.ref q := ry
    by_cases e : p = q
    · subst e
      rw [decide_eq_true rfl] at k
      exact rc_same (by omega) I.kIn J1 F0 ⟨.bl true, H, I, rfl, k⟩
    · rw [decide_eq_false e] at k
      obtain ⟨m2, O2, _⟩ := ins_get I.hok hq
      obtain ⟨od2, J2, _⟩ := O2.look
      exact rc_other (by omega) I.kIn J1 J2 e F0 ⟨.bl false, H, I, rfl, k⟩
  · obtain ⟨t, rfl⟩ := (show ∃ t, u = Value.str z t from ry)
    exact rc_str (by omega) I.kIn J1 F0 (fun a b => by simp) ⟨.bl false, H, I, rfl, k⟩
theorem op_neI (F0 : CmpI X.K (He.ga X.K C)) (hu : X.A.units + 64 < cLine) : OpR X (compareOp .NotEq) (fun x y H Q => ∃ (p dx : Addr) (fs : List (Str × V)) (q dy : Addr) (gs : List (Str × V)), x = .ref p ∧ H p = some (.ins (He.ga X.K C) dx fs) ∧
    y = .ref q ∧ H q = some (.ins (He.ga X.K C) dy gs) ∧ Q (.bl (!decide (p = q))) H) := by
  intro pins s σ H x y v u Q I rx ry h
  obtain ⟨p, dx, fs, q, dy, gs, rfl, hp, rfl, hq, k⟩ := h
  obtain rfl : v = Value.ref p := rx
  obtain rfl : u = Value.ref q := ry
  obtain ⟨m1, O1, _⟩ := ins_get I.hok hp
  obtain ⟨od1, J1, _⟩ := O1.look
  show wpAny (model X.prog X.w) X.A (richCompare .NotEq (.ref p) (.ref q)) (EP X pins σ Q) X.xe s
  by_cases e : p = q
  · subst e
    rw [decide_eq_true rfl] at k
    exact rn_same (by omega) I.kIn J1 F0 ⟨.bl false, H, I, rfl, k⟩
  · rw [decide_eq_false e] at k
    obtain ⟨m2, O2, _⟩ := ins_get I.hok hq
    obtain ⟨od2, J2, _⟩ := O2.look
    exact rn_other (by omega) I.kIn J1 J2 e F0 ⟨.bl true, H, I, rfl, k⟩
end
end Sz
/-! == of tuples and lists of instances with an own __eq__, whatever it says -/
namespace Sz
open PySem PySem.Spec PyProof.Rows L2
section
variable {prog : Program} {w : World} {A : Around} {R : Result → Shared → Prop}
/-- item by item until two differ: J holds at each turn -/
theorem tuple_eqB (l b : Addr) (us ws : Array Value) (n n2 : Nat) (dd dd2 : Option Addr) (sl sl2 : Array (Option Value)) (e : Nat → Bool) (J : Shared → Prop)
    (turn : ∀ i (h1 : i < us.size) (h2 : i < ws.size) s, J s → wpAny (model prog w) A.in1 (eqBool us[i] ws[i]) (fun r s' => r = e i ∧ J s') (fun e s' => R (.error e) s') s)
    (fin : ∀ s, J s → R (.ok (.ret (.bool ((us.size == ws.size) && (List.range us.size).all e)))) s) {s : Shared} (hl1 : s.heap.get? l = some { cls := .type "tuple", dict := dd, data := .seq us n, slots := sl }) (hb1 : s.heap.get? b = some { cls := .type "tuple", dict := dd2, data := .seq ws n2, slots := sl2 }) (h : J s) :
    wpAny (model prog w) A.in1 (Builtin.«tuple.__eq__» ⟨[.ref l, .ref b], []⟩) (GQ.FinOf prog w A R) (fun e s' => R (.error e) s') s := by
  have f2x := AutoSeq1.sub_tuple_tuple
  have hZ : (us.toList.zip ws.toList).length = min us.size ws.size := by simp
  have h0 := h
  obtain ⟨hp, g, d, tk, os⟩ := s
  wp_walk using AutoSeq1.wpAny_loadPart' hl1, AutoSeq1.wpAny_loadPart' hb1, wpAny_forIn_list _ (fun rest b s' => b.1 = none ∧ ∃ i, rest = (us.toList.zip ws.toList).drop i ∧ i ≤ min us.size ws.size ∧ (∀ j, j < i → e j = true) ∧ J s') _
  case turn =>
    rintro ⟨y, x⟩ rest b s' ⟨hb', i, hz, hi, ha, hI⟩
    have hgo : i < (us.toList.zip ws.toList).length := by
      rcases Nat.lt_or_ge i (us.toList.zip ws.toList).length with h' | h'
      · exact h'
      · rw [List.drop_of_length_le h'] at hz ; cases hz
    have h12 : i < min us.size ws.size := hZ ▸ hgo
    have h1 : i < us.size := by omega
    have h2 : i < ws.size := by omega
    rw [List.drop_eq_getElem_cons hgo] at hz ; injection hz with hpp hrest
    obtain rfl : y = us[i] := by have := congrArg Prod.fst hpp; simpa using this
    obtain rfl : x = ws[i] := by have := congrArg Prod.snd hpp; simpa using this
    refine wpAny_bind (wpAny_mono (turn i h1 h2 s' hI) (fun r s2 q2 => ?_) fun _ _ x => x)
    obtain ⟨rfl, q2⟩ := q2
    cases he : e i with
    | true =>
      wp_walk
      refine ⟨rfl, i + 1, hrest, by omega, fun j hj => ?_, q2⟩
      by_cases c : j = i
      · rw [c]
        exact he
      · exact ha j (by omega)
    | false =>
      have z := fin s2 q2
      have no : (List.range us.size).all e = false := List.all_eq_false.mpr ⟨i, List.mem_range.mpr h1, by rw [he]; decide⟩
      rw [no, Bool.and_false] at z
      wp_walk
      exact z
  case fin =>
    rintro ⟨b1, b2⟩ s' ⟨hb', i, hz, hi, ha, hI⟩
    simp only at hb'
    subst hb'
    have hge : min us.size ws.size ≤ i := by
      rcases Nat.lt_or_ge i (us.toList.zip ws.toList).length with h' | h'
      · rw [List.drop_eq_getElem_cons h'] at hz ; cases hz
      · exact hZ ▸ h'
    have z := fin s' hI
    have key : ((us.size == ws.size) && (List.range us.size).all e) = (us.size == ws.size) := by
      by_cases c : us.size = ws.size
      · have al : (List.range us.size).all e = true := List.all_eq_true.mpr fun j hj => ha j (by have := List.mem_range.mp hj; omega)
        rw [al, Bool.and_true]
      · rw [show (us.size == ws.size) = false from beq_eq_false_iff_ne.mpr c, Bool.false_and]
    rw [key] at z
    wp_walk
    exact z
  case h =>
    exact ⟨rfl, 0, rfl, Nat.zero_le _, fun j hj => absurd hj (by omega), h0⟩
theorem rc_tupB {E : Value → Shared → Prop} {l b : Addr} {us ws : Array Value} {Q : Value → Shared → Prop} (e : Nat → Bool) (hu : A.units < cLine) (J : Shared → Prop) {s : Shared} (hl : s.heap.IsTuple l us) (hb : s.heap.IsTuple b ws)
    (turn : ∀ i (h1 : i < us.size) (h2 : i < ws.size) s, J s → wpAny (model prog w) A.in1 (eqBool us[i] ws[i]) (fun r s' => r = e i ∧ J s') E s)
    (fin : ∀ s, J s → Q (.bool ((us.size == ws.size) && (List.range us.size).all e)) s) (h : J s) : wpAny (model prog w) A (richCompare .Eq (.ref l) (.ref b)) Q E s := by
  obtain ⟨⟨cls, dd, data, sl⟩, ho, hc, n, hd⟩ := id hl
  obtain ⟨⟨cls2, dd2, data2, sl2⟩, ho2, hc2, n2, hd2⟩ := id hb
  simp only at hc hd hc2 hd2 ; subst hc hd hc2 hd2
  refine wpAny_richCompare_same_room (op := .Eq) ⟨_, ho, rfl⟩ ⟨_, ho2, rfl⟩ F.slot_tuple_eq (GQ.call_here F.slot_tuple_eq ⟨_, ho, rfl⟩ F.entry_tuple_eq (F.args_tuple_eq_2 _ _) ?_) hu
  exact tuple_eqB (R := wants (fun v s' => v ≠ .notImplemented ∧ Q v s') E) l b us ws n n2 dd dd2 sl sl2 e J turn (fun s' j => ⟨(fun x => nomatch x), fin s' j⟩) ho ho2 h
/-- two lists, item by item equal: != says False -/
theorem ne_loopB (l b : Addr) (N : Nat) (I : Nat → Shared → Prop) (hl : GQ.ListI prog w A (fun e s' => R (.error e) s') l b N I) (fin : ∀ s, I N s → R (.ok (.ret (.bool false))) s) (k : Nat) :
    ∀ i : Nat, N - i = k → i ≤ N → ∀ s, I i s → wpAny (model prog w) A.in1 (Builtin.«list.__eq__.loop» ⟨[.ref l, .ref b, rawInt i, rawInt 3], []⟩) (GQ.FinOf prog w A R) (fun e s' => R (.error e) s') s := by
  induction k with
  | zero =>
    intro i hk hi s h
    obtain ⟨us, ws, n, n2, hl1, hb1, hs1, hs2, _⟩ := hl _ _ h
    have hR : R (.ok (.ret (.bool false))) s := fin s ((show i = N by omega) ▸ h)
    obtain ⟨hp, g, d, tk, os⟩ := s
    wp_walk using AutoSeq1.wpAny_loadPart' hl1, AutoSeq1.wpAny_loadPart' hb1
    have n1 : us[((i : Nat) : Int).toNat]? = none := by simp; omega
    have n3 : ws[((i : Nat) : Int).toNat]? = none := by simp; omega
    rw [n1, n3]
    wp_walk using AutoSeq1.wpAny_loadPart' hl1, AutoSeq1.wpAny_loadPart' hb1
    show R (.ok (.ret (.bool (us.size != ws.size)))) _
    rw [hs1, hs2, bne_self_eq_false]
    exact hR
  | succ k ih =>
    intro i hk hi s h
    obtain ⟨us, ws, n, n2, hl1, hb1, hs1, hs2, turn⟩ := hl _ _ h
    have q1 : i < us.size := by omega
    have q2 : i < ws.size := by omega
    have ht := turn q1 q2
    obtain ⟨hp, g, d, tk, os⟩ := s
    wp_walk using AutoSeq1.wpAny_loadPart' hl1, AutoSeq1.wpAny_loadPart' hb1
    have n1 : us[((i : Nat) : Int).toNat]? = some us[i] := by simp [q1]
    have n3 : ws[((i : Nat) : Int).toNat]? = some ws[i] := by simp [q2]
    have hc : ((i : Int) + 1) = ((i + 1 : Nat) : Int) := by omega
    rw [n1, n3]
    refine wpAny_bind (wpAny_mono ht (fun r s2 z => ?_) fun _ _ x => x)
    obtain ⟨rfl, h2⟩ := z
    have hrec := ih (i + 1) (by omega) (by omega) s2 h2
    obtain ⟨hp2, g2, d2, tk2, os2⟩ := s2
    wp_walk
    rw [hc]
    exact ⟨plainId_quiet MeetsSeq3.plain_eq_loop _, codeAny_builtin MeetsSeq3.entry_eq_loop (by rw [Around.under_plainId MeetsSeq3.plain_eq_loop _]; exact hrec)⟩
theorem rn_listB {E : Value → Shared → Prop} {l b : Addr} {N : Nat} {Q : Value → Shared → Prop} {s : Shared} (hu : A.units < cLine) (I : Nat → Shared → Prop) (hl : GQ.ListI prog w A E l b N I) (fin : ∀ s, I N s → Q (.bool false) s) (h : I 0 s) :
    wpAny (model prog w) A (richCompare .NotEq (.ref l) (.ref b)) Q E s := by
  obtain ⟨us, ws, n, n2, hl1, hb1, hs1, hs2, _⟩ := hl _ _ h
  refine wpAny_richCompare_same_room (op := .NotEq) ⟨_, hl1, rfl⟩ ⟨_, hb1, rfl⟩ F.slot_list_ne (GQ.call_here F.slot_list_ne ⟨_, hl1, rfl⟩ F.entry_list_ne (F.args_list_ne_2 _ _) ?_) hu
  have hrec := ne_loopB (A := A) (R := wants (fun v s' => v ≠ .notImplemented ∧ Q v s') E) l b N I hl (fun s' q => ⟨(fun x => nomatch x), fin s' q⟩) _ 0 rfl (Nat.zero_le _) s h
  obtain ⟨hp, g, d, tk, os⟩ := s
  have f3 := AutoSeq1.sub_list_list
  have hne : ¬ (us.size != ws.size) = true := by rw [hs1, hs2]; simp
  wp_walk using AutoSeq1.wpAny_loadPart' hl1, AutoSeq1.wpAny_loadPart' hb1
  exact ⟨plainId_quiet MeetsSeq3.plain_eq_loop _, codeAny_builtin MeetsSeq3.entry_eq_loop (by rw [Around.under_plainId MeetsSeq3.plain_eq_loop _]; exact hrec)⟩
end
/-- == within a container: what it says, with nothing changed that is tracked -/
def EqB (X : Cx) (n : Nat) (D : V → V → Hp → Bool → Prop) : Prop := ∀ (A : Around) (pins : List (Addr × Obj)) (s : Shared) (σ : L2.St) (H : Hp) (x y : V) (u v : Value) (r : Bool), Sub X n A → Inv X pins σ H s → RelV x u → RelV y v → D x y H r →
  wpAny (model X.prog X.w) A (eqBool u v) (fun q s' => q = r ∧ Inv X pins σ H s') X.xe s
/-- two instances of C, compared by its own __eq__ -/
def BIns (K : PySem.W.Frag) (C : Str) (sp : Sp) (E : XK) : V → V → Hp → Bool → Prop := fun x y H r => ∃ (a b dx dy : Addr) (fs gs : List (Str × V)), x = .ref a ∧ y = .ref b ∧ H a = some (.ins (He.ga K C) dx fs) ∧ H b = some (.ins (He.ga K C) dy gs) ∧ (a = b → r = true) ∧ sp [.ref a, .ref b] H (fun v H2 => v = .bl r ∧ H2 = H) E
section
variable {X : Cx} {CX : CXT} {k n : Nat} {C : Str} {ps : List Str} {sp : Sp} {E : XK}
theorem eqB_ins (G : PromM X.prog X.w X.K X.mg X.base CX k C "__eq__" ps sp) (hx : Passes CX X E) : EqB X k (BIns X.K C sp E) := by
  intro A pins s σ H x y u v r sb I rx ry h
  obtain ⟨a, b, dx, dy, fs, gs, rfl, rfl, ha, hb, same, h⟩ := h
  obtain rfl : u = Value.ref a := rx
  obtain rfl : v = Value.ref b := ry
  by_cases e : a = b
  · subst e
    rw [same rfl]
    exact SeqAt.EqAt.same (A := A) (s := s) (.ref a) X.prog X.w X.xe _ ⟨rfl, I⟩
  · refine GQ.eqBool_refG e ?_
    obtain ⟨m1, O1, _⟩ := ins_get I.hok ha
    obtain ⟨od1, J1, _⟩ := O1.look
    obtain ⟨m2, O2, _⟩ := ins_get I.hok hb
    obtain ⟨od2, J2, _⟩ := O2.look
    obtain ⟨m, hF⟩ := I.fr
    refine PySem.W.cmp_K (op := .Eq) (tb := .ref (He.ga X.K C)) sb.room.units0 hF I.ok.mod.kin J1 J2.type (by simp [PySem.W.notFirst]) G.me.at_ G.me.fn ?_
    refine wpAny_mono (run_own G hx (A := A) ⟨sb.room, sb.fr⟩ (vs := [.ref a, .ref b]) (us := [.ref a, .ref b]) I (.cons rfl (.cons rfl .nil)) h) (fun v s' z => ?_) fun _ _ y => y
    obtain ⟨z, H', I', rz, rfl, rfl⟩ := z
    cases rz
    exact ⟨r, rfl, rfl, I'⟩
theorem items_B {D : V → V → Hp → Bool → Prop} (hD : EqB X n D) {A : Around} (sb : Sub X (n + 1) A) {pins : List (Addr × Obj)} {σ : L2.St} {H : Hp} {xs ys : List V} {its its2 : List Value} {e : Nat → Bool} (p : ∀ (i : Nat) x y, xs[i]? = some x → ys[i]? = some y → D x y H (e i)) (r : Vals xs its) (r2 : Vals ys its2)
    (i : Nat) (h1 : i < its.toArray.size) (h2 : i < its2.toArray.size) (s' : Shared) (I : Inv X pins σ H s') : wpAny (model X.prog X.w) A.in1 (eqBool its.toArray[i] its2.toArray[i]) (fun q s2 => q = e i ∧ Inv X pins σ H s2) X.xe s' := by
  have g1 : its[i]? = some its.toArray[i] := by rw [List.getElem?_eq_getElem (by simpa using h1)] <;> simp
  have g2 : its2[i]? = some its2.toArray[i] := by rw [List.getElem?_eq_getElem (by simpa using h2)] <;> simp
  have k1 : i < xs.length := by rw [r.length]; simpa using h1
  have k2 : i < ys.length := by rw [r2.length]; simpa using h2
  obtain ⟨u, hu, ru⟩ := r.get (List.getElem?_eq_getElem k1)
  obtain ⟨v, hv, rv⟩ := r2.get (List.getElem?_eq_getElem k2)
  rw [g1] at hu ; rw [g2] at hv
  cases hu ; cases hv
  exact hD A.in1 pins s' σ H _ _ _ _ _ sb.in1 I ru rv (p i _ _ (List.getElem?_eq_getElem k1) (List.getElem?_eq_getElem k2))
/-- t == u of tuples -/
def rEqTB (K : PySem.W.Frag) (D : V → V → Hp → Bool → Prop) : R2 := fun x y H Q => ∃ (a b : Addr) (xs ys : List V) (e : Nat → Bool), x = .ref a ∧ y = .ref b ∧ SqT K H a xs ∧ SqT K H b ys ∧ (∀ (i : Nat) x y, xs[i]? = some x → ys[i]? = some y → D x y H (e i)) ∧ Q (.bl ((xs.length == ys.length) && (List.range xs.length).all e)) H
theorem op_eqTB {D : V → V → Hp → Bool → Prop} (hD : EqB X n D) (hr : Room (n + 1) X.A) : OpR X (compareOp .Eq) (rEqTB X.K D) := by
  intro pins s σ H x y v u Q I rx ry h
  obtain ⟨a, b, xs, ys, e, rfl, rfl, ha, hb, p, q⟩ := h
  obtain rfl : v = Value.ref a := rx
  obtain rfl : u = Value.ref b := ry
  obtain ⟨its, r, t1, _⟩ := I.tuple ha
  obtain ⟨its2, r2, t2, _⟩ := I.tuple hb
  have sb : Sub X (n + 1) X.A := ⟨hr, rfl⟩
  refine rc_tupB e hr.units0 (fun s' => Inv X pins σ H s') t1 t2 (fun i h1 h2 s' j => items_B hD sb p r r2 i h1 h2 s' j) (fun s' j => ?_) I
  refine ⟨.bl _, H, j, ?_, q⟩
  rw [List.size_toArray, List.size_toArray, ← r.length, ← r2.length]
  rfl
/-- l != m of lists that are equal item by item -/
def rNeLB (K : PySem.W.Frag) (D : V → V → Hp → Bool → Prop) : R2 := fun x y H Q => ∃ (a b : Addr) (xs ys : List V), x = .ref a ∧ y = .ref b ∧ H a = some (.lst xs) ∧ H b = some (.lst ys) ∧ xs.length = ys.length ∧ (∀ (i : Nat) x y, xs[i]? = some x → ys[i]? = some y → D x y H true) ∧ Q (.bl false) H
theorem op_neLB {D : V → V → Hp → Bool → Prop} (hD : EqB X n D) (hr : Room (n + 1) X.A) : OpR X (compareOp .NotEq) (rNeLB X.K D) := by
  intro pins s σ H x y v u Q I rx ry h
  obtain ⟨a, b, xs, ys, rfl, rfl, ha, hb, hl, p, q⟩ := h
  obtain rfl : v = Value.ref a := rx
  obtain rfl : u = Value.ref b := ry
  have sb : Sub X (n + 1) X.A := ⟨hr, rfl⟩
  refine rn_listB (N := xs.length) hr.units0 (fun _ s' => Inv X pins σ H s') (fun i s' j => ?_) (fun s' j => ⟨.bl false, H, j, rfl, q⟩) I
  obtain ⟨z, its, k, r, e⟩ := j.hok a _ ha
  obtain ⟨z2, its2, k2, r2, e2⟩ := j.hok b _ hb
  refine ⟨its.toArray, its2.toArray, k, k2, e, e2, by rw [List.size_toArray, ← r.length], by rw [List.size_toArray, ← r2.length, ← hl], fun h1 h2 => ?_⟩
  exact items_B hD sb (e := fun _ => true) p r r2 i h1 h2 s' j
end
end Sz
/-! x in a list of texts, integers, None and tuples, where x has an own __eq__ -/
namespace Sz
open PySem PySem.Spec PyProof.Rows L2
structure NoSub (K : PySem.W.Frag) (C : Addr) : Prop where
  s : PySem.W.mroIn K C (.type "str") = some false
  t : PySem.W.mroIn K C (.type "tuple") = some false
  i : PySem.W.mroIn K C (.type "int") = some false
  n : PySem.W.mroIn K C (.type "NoneType") = some false
def noSubB (K : PySem.W.Frag) (C : Addr) : Bool := ["str", "tuple", "int", "NoneType"].all fun z => decide (PySem.W.mroIn K C (.type z) = some false)
theorem noSub_ok {K : PySem.W.Frag} {C : Addr} (h : noSubB K C = true) : NoSub K C := by
  have k := fun z hz => of_decide_eq_true (List.all_eq_true.mp h z hz)
  exact ⟨k _ (by simp), k _ (by simp), k _ (by simp), k _ (by simp)⟩
section
variable {prog : Program} {w : World} {A : Around} {E : Value → Shared → Prop} {s : Shared} {K : PySem.W.Frag} {x C f : Addr} {ox : Obj} {od : Option Obj}
theorem isInst_no {M : Model} {A : Around} {E : Value → Shared → Prop} {T : String} {R : Bool → Shared → Prop} (X : K.In s.heap) (I : PySem.W.InstAt s.heap x ox C od) (hm : PySem.W.mroIn K C (.type T) = some false) (h : R false s) : wpAny M A (isInstance (.ref x) (.type T)) R E s := by
  unfold isInstance
  exact wpAny_bind (I.type.here ((PySem.W.looks_mroIn X hm).here h))
theorem tup_declines {t : Addr} {ot : Obj} {Q : Value → Shared → Prop} (ht : s.heap.get? t = some ot) (hc : ot.cls = .type "tuple") (X : K.In s.heap) (I : PySem.W.InstAt s.heap x ox C od) (N : NoSub K C) (hq : Q .notImplemented s) : wpAny (model prog w) A (call (.builtin "tuple.__eq__") [.ref t, .ref x]) Q E s := by
  refine GQ.call_here F.slot_tuple_eq ⟨ot, ht, hc⟩ F.entry_tuple_eq (F.args_tuple_eq_2 _ _) ?_
  have e : ∀ {M : Model} {A : Around} {E : Value → Shared → Prop} {R : Bool → Shared → Prop}, R false s → wpAny M A (isInstance (.ref x) (.type "tuple")) R E s := fun h => isInst_no X I N.t h
  obtain ⟨hp, g, d, tk, os⟩ := s
  repeat (first | with_reducible refine e ?_ | wp_step)
  all_goals first | exact hq | trace_state
theorem int_declines {i : Int} {t : Tok} {Q : Value → Shared → Prop} (X : K.In s.heap) (I : PySem.W.InstAt s.heap x ox C od) (N : NoSub K C) (hd : ∀ a, ox.data ≠ .prim a) (hq : Q .notImplemented s) : wpAny (model prog w) A (call (.builtin "int.__eq__") [.int i t, .ref x]) Q E s := by
  refine GQ.call_here F.slot_int_eq (show s.TypeIs (.int i t) "int" from rfl) F.entry_int_eq (F.args_int_eq_2 _ _) ?_
  have hx := I.at_
  obtain ⟨hp, g, d, tk, os⟩ := s
  wp_walk using AutoSeq1.wpAny_loadPart' hx, wpAny_load hx
  split
  · rename_i a b e
    exact absurd e (hd _)
  · repeat wp_step
    exact hq
theorem rc_left {u : Value} {T : String} {Q : Value → Shared → Prop} (hu : A.units < cLine) (X : K.In s.heap) (I : PySem.W.InstAt s.heap x ox C od) (hT : s.TypeIs u T) (hm : PySem.W.mroIn K C (.type T) = some false) (h1 : oneThing? .Eq u (.ref x) = none)
    (one : wpAny (model prog w) A (tryCompare u "__eq__" (.ref x)) (fun r s' => r = none ∧ s' = s) E s) (hs : PySem.W.findIn K (.ref C) "__eq__" = some (some (.ref f))) (hf : PySem.W.isFn K (.ref f) = true)
    (h : wpAny (model prog w) A (call (.ref f) [.ref x, u]) (PySem.W.CmpBack Q) E s) : wpAny (model prog w) A (richCompare .Eq u (.ref x)) Q E s := by
  have two : wpAny (model prog w) A (tryCompare (.ref x) "__eq__" u) (fun r s' => ∃ v, r = some v ∧ Q v s') E s := by
    unfold tryCompare
    refine wpAny_bind (PySem.W.ifBound_K X I hs hf (wpAny_mono h (fun v s' hv => ?_) fun _ _ e => e))
    cases v <;> first | exact hv.elim | exact wpAny_pure ⟨_, rfl, hv⟩
  simp only [richCompare, cmpInfo_Eq, h1]
  refine wpAny_holding (wpAny_bind (wpAny_cRoomFor hu ?_))
  refine wpAny_bind (wpAny_typeOf hT ?_)
  refine wpAny_bind (I.type.here ?_)
  split
  · refine wpAny_bind ((PySem.W.looks_mroIn X hm).here ?_)
    simp only [Bool.false_eq_true, if_false, Bool.not_false, if_true]
    refine wpAny_bind (m := tryCompare u _ (.ref x)) (wpAny_mono one (fun r s1 q => ?_) fun _ _ q => q)
    obtain ⟨rfl, rfl⟩ := q
    refine wpAny_bind (m := tryCompare (.ref x) _ u) (wpAny_mono two (fun r s2 q => ?_) fun _ _ q => q)
    obtain ⟨v, rfl, q⟩ := q
    exact wpAny_pure q
  · rename_i q
    exact absurd (by simp) q
end
section
variable {X : Cx} {CX : CXT} {k : Nat} {C : Str} {ps : List Str} {sp : Sp} {E : XK}
/-- no instance of an own class -/
def Plain4 (K : PySem.W.Frag) (H : Hp) (z : V) : Prop := z = .non ∨ (∃ i, z = .int i) ∨ (∃ y, z = .str y) ∨ ∃ (a : Addr) (xs : List V), z = .ref a ∧ SqT K H a xs
theorem eqB_left (G : PromM X.prog X.w X.K X.mg X.base CX k C "__eq__" ps sp) (N : NoSub X.K (He.ga X.K C)) (hx : Passes CX X E) {A : Around} (sb : Sub X k A) {pins : List (Addr × Obj)} {σ : L2.St} {H : Hp} {s : Shared} {z : V} {u : Value} {p dx : Addr} {fs : List (Str × V)} (I : Inv X pins σ H s) (rz : RelV z u)
    (hp : H p = some (.ins (He.ga X.K C) dx fs)) (hz : Plain4 X.K H z) (h : sp [.ref p, z] H (fun v H2 => v = .bl false ∧ H2 = H) E) : wpAny (model X.prog X.w) A (eqBool u (.ref p)) (fun b s' => b = false ∧ Inv X pins σ H s') X.xe s := by
  obtain ⟨m1, O1, _⟩ := ins_get I.hok hp
  obtain ⟨od1, J1, _⟩ := O1.look
  have own : wpAny (model X.prog X.w) A (call (.ref (He.ma X.K (He.ga X.K C) "__eq__")) [.ref p, u]) (PySem.W.CmpBack fun v s' => v = .bool false ∧ Inv X pins σ H s') X.xe s := by
    refine wpAny_mono (run_own G hx (A := A) ⟨sb.room, sb.fr⟩ (vs := [.ref p, z]) (us := [.ref p, u]) I (.cons rfl (.cons rz .nil)) h) (fun v s' q => ?_) fun _ _ y => y
    obtain ⟨q1, H', I', rq, rfl, rfl⟩ := q
    cases rq
    exact ⟨rfl, I'⟩
  have go : ∀ (ne : u ≠ .ref p), wpAny (model X.prog X.w) A (richCompare .Eq u (.ref p)) (fun v s' => v = .bool false ∧ Inv X pins σ H s') X.xe s → wpAny (model X.prog X.w) A (eqBool u (.ref p)) (fun b s' => b = false ∧ Inv X pins σ H s') X.xe s := fun ne q => by
    unfold eqBool
    refine wpAny_holding (wpAny_ite_split (fun e => absurd (eq_of_beq e) ne) fun _ => ?_)
    have fin : ∀ (v : Value) (s' : Shared), v = .bool false ∧ Inv X pins σ H s' → wpAny (model X.prog X.w) A (truthOfDropped v) (fun b s' => b = false ∧ Inv X pins σ H s') X.xe s' := fun v s' j => by
      obtain ⟨rfl, j⟩ := j
      exact wpAny_truthy_bool ⟨rfl, j⟩
    cases u <;> exact wpAny_bind (wpAny_mono q (fun v s' j => fin v s' j) fun _ _ x => x)
  rcases hz with rfl | ⟨i, rfl⟩ | ⟨y, rfl⟩ | ⟨a, xs, rfl, ht⟩
  · obtain rfl : u = Value.none := rz
    refine go nofun (rc_left (T := "NoneType") sb.room.units0 I.kIn J1 rfl N.n rfl ?_ G.me.at_ G.me.fn own)
    exact wpAny_tryCompare_declines (show s.TypeIs .none "NoneType" from rfl) F.slot_NoneType_eq (call_gives F.slot_NoneType_eq rfl F.entry_NoneType_eq (F.args_NoneType_eq_2 _ _) (SeqAt.NoneType___eq___none_ref_0 p) ⟨rfl, rfl, rfl⟩)
  · obtain ⟨t, rfl⟩ := (show ∃ t, u = Value.int i t from rz)
    refine go nofun (rc_left (T := "int") sb.room.units0 I.kIn J1 rfl N.i rfl ?_ G.me.at_ G.me.fn own)
    exact wpAny_tryCompare_declines (show s.TypeIs (.int i t) "int" from rfl) F.slot_int_eq (int_declines I.kIn J1 N (fun a => by simp) ⟨rfl, rfl, rfl⟩)
  · obtain ⟨t, rfl⟩ := (show ∃ t, u = Value.str y t from rz)
    refine go nofun (rc_left (T := "str") sb.room.units0 I.kIn J1 (typeIs_str s y t) N.s rfl ?_ G.me.at_ G.me.fn own)
    exact wpAny_tryCompare_declines (typeIs_str s y t) F.slot_str_eq (str_eq_call J1.at_ (fun a b => by simp) ⟨rfl, rfl, rfl⟩)
  · obtain rfl : u = Value.ref a := rz
    obtain ⟨its, rv, ⟨o, ho, hcl, na, hd⟩, _⟩ := I.tuple ht
    have ne : a ≠ p := fun e => by
      subst e
      have e1 := J1.at_
      rw [ho] at e1
      cases e1
      exact absurd hcl (nt_of J1)
    refine go (fun e => ne (by injection e)) (rc_left (T := "tuple") sb.room.units0 I.kIn J1 ⟨o, ho, hcl⟩ N.t rfl ?_ G.me.at_ G.me.fn own)
    exact wpAny_tryCompare_declines ⟨o, ho, hcl⟩ F.slot_tuple_eq (tup_declines ho hcl I.kIn J1 N ⟨rfl, rfl, rfl⟩)
/-- x in [..]: none of them is it -/
theorem op_inB (G : PromM X.prog X.w X.K X.mg X.base CX k C "__eq__" ps sp) (N : NoSub X.K (He.ga X.K C)) (hr : Room (k + 1) X.A) (hx : Passes CX X E) : OpR X (compareOp .In) (fun x y H Q => ∃ (p dx : Addr) (fs : List (Str × V)) (l : Addr) (ys : List V), x = .ref p ∧ H p = some (.ins (He.ga X.K C) dx fs) ∧ y = .ref l ∧ H l = some (.lst ys) ∧
    (∀ z ∈ ys, Plain4 X.K H z ∧ sp [.ref p, z] H (fun v H2 => v = .bl false ∧ H2 = H) E) ∧ Q (.bl false) H) := by
  intro pins s σ H x y v u Q I rx ry h
  obtain ⟨p, dx, fs, l, ys, rfl, hp, rfl, hl, hy, q⟩ := h
  obtain rfl : v = Value.ref p := rx
  obtain rfl : u = Value.ref l := ry
  refine SeqAt.in_listG (N := ys.length) (fun _ => false) (fun s' => Inv X pins σ H s') ?_ I ?_
  · intro s' j
    obtain ⟨z, its, n, r, ho⟩ := j.hok l _ hl
    refine ⟨its.toArray, n, _, _, ho, by rw [List.size_toArray, ← r.length], fun i y hi => ?_⟩
    have hi : its[i]? = some y := by simpa using hi
    have k1 : i < ys.length := by
      have := (List.getElem?_eq_some_iff.mp hi).1
      rw [r.length]
      exact this
    obtain ⟨u, hu, ru⟩ := r.get (List.getElem?_eq_getElem k1)
    rw [hi] at hu
    cases hu
    obtain ⟨h1, h2⟩ := hy _ (List.getElem_mem k1)
    exact eqB_left G N hx ⟨hr.in1, rfl⟩ j ru hp h1 h2
  · intro s' j
    rw [show (List.range' 0 ys.length).any (fun _ => false) = false from List.any_eq_false.mpr fun _ _ => by simp]
    exact ⟨.bl false, H, j, rfl, q⟩
end
end Sz
/-! raise C() of an own class without __init__; C(k = v) -/
namespace Sz
open PySem PySem.Spec PyProof.Rows L2
/-- an own error class without __init__: base b (0 ValueError, 1 LookupError, 2 ArithmeticError) -/
def err0B (K : PySem.W.Frag) (b : Nat) (C : Addr) : Bool := PySem.W.excIn K C (etail b) (ebase b ++ ".__new__") && (PySem.W.keepIn K (.ref C) && (decide (PySem.W.subIn K (.ref C) (.type "BaseException") = some true) && decide (PySem.W.typeIn K (.ref C) = some (.type "type"))))
section
variable {X : Cx} {x : Str} {p pos rpos : Pos} {W : WX} {C : Addr} {bmB : List Value} {B newId initId : String}
theorem pmk_own0 (F : ExcBaseFacts B newId initId bmB) (q : PySem.W.excIn X.K C bmB newId = true) (gC : X.mg x = some (.ref C)) (kC : PySem.W.keepIn X.K (.ref C) = true) (r : Raises X (.ref C)) (hg : Gl X x)
    (hdb : (x == ("__debug__" : Str)) = false := by decide) : PMk X (.Call (.Name x p) [] [] pos) (fun _ H Q => Q (.ref C) none H) := by
  intro pins s σ H Q I h
  refine wpAny_Call_Name_kw (ld_glob I hg gC ?_ hdb)
  refine PySem.W.callWith_K0 I.kIn kC ?_
  show wpAny _ _ (call (.ref C) []) _ _ _
  obtain ⟨bm, N, nm, qn, bs, hdct, sn, sub, ab, col, dd, k0, k1, k2, k3, k5, mN, hC, hN, hni, T⟩ := exc_obj I.kIn q
  refine wpAny_call_exc_subT F T hC hN hni (fun h' e hm => ?_) (by show 0 ≤ sizeLine; exact Nat.zero_le _)
  exact mk_of I hm r h (I.hok.gone hm.new)
/-- raise C() -/
theorem ps_raise0 (b : Nat) (q : err0B X.K b (He.ga X.K x) = true) (gC : X.mg x = some (.ref (He.ga X.K x))) (hg : Gl X x) (tk : Takes X W) (hc : X.calm = true := by rfl)
    (hdb : (x == ("__debug__" : Str)) = false := by decide) : PS X (.Raise (some (.Call (.Name x p) [] [] pos)) none rpos) (fun _ σ H => W (.ref (He.ga X.K x)) none σ H) := by
  obtain ⟨h1, h2⟩ := He.ba (show (_ && _) = true from q)
  obtain ⟨h2, h3⟩ := He.ba h2
  obtain ⟨h3, h4⟩ := He.ba h3
  have r : Raises X (.ref (He.ga X.K x)) := raises_own (of_decide_eq_true h3) (of_decide_eq_true h4)
  match b, h1 with
  | 0, h1 => exact ps_raise hc tk (pmk_own0 PySem.F.excBase_ValueError h1 gC h2 r hg hdb)
  | 1, h1 => exact ps_raise hc tk (pmk_own0 PySem.F.excBase_LookupError h1 gC h2 r hg hdb)
  | n + 2, h1 => exact ps_raise hc tk (pmk_own0 PySem.F.excBase_ArithmeticError h1 gC h2 r hg hdb)
end
/-- str of an instance by its own __str__, for comprehensions -/
def rStrO (K : PySem.W.Frag) (C : Str) (sp : Sp) (E : XK) : List V → Hp → VK → Prop := fun xs H Q => ∃ p dx fs, xs = [.ref p] ∧ H p = some (.ins (He.ga K C) dx fs) ∧ sp [.ref p] H (fun v H2 => ∃ y : Str, v = .str y ∧ Q (.str y) H2) E
/-! ### C(k = v) -/
structure PromCD (P : Program) (w : World) (K : PySem.W.Frag) (mg : Str → Option Value) (base : Heap) (CX : CXT) (k : Nat) (C q : Str) (st : Stmt) (ps : List Str) (sp : Sp) : Prop where
  make : Mk K (He.ga K C) (He.ma K (He.ga K C) "__init__")
  mg_ : mg C = some (.ref (He.ga K C))
  ex : ∃ sp0 fd, FnOk P w K mg base CX k (He.ma K (He.ga K C) "__init__") fd ps sp0 ∧ Binds K fd ps [] ∧ FunD K "__init__" q (defArgs st) (defBody st) (defScope st) [] [] (He.ma K (He.ga K C) "__init__") fd ∧
    ∀ vs H Q E, sp vs H Q E → ∀ x dx, H x = none → H dx = none → dx ≠ x → sp0 (V.ref x :: vs) (upd (upd H dx (.own x)) x (.ins (He.ga K C) dx [])) (fun v H2 => v = .non ∧ Q (.ref x) H2) E
section
variable {P : Program} {w : World} {K : PySem.W.Frag} {mg : Str → Option Value} {base : Heap}
theorem PromCD.c {CX : CXT} {k : Nat} {C q : Str} {st : Stmt} {ps : List Str} {sp : Sp} (h : PromCD P w K mg base CX k C q st ps sp) : PromC P w K mg base CX k C sp := by
  obtain ⟨sp0, fd, F1, b, _, hs⟩ := h.ex
  refine ⟨h.make, h.mg_, _, F1.raw b .nil, fun vs H Q E h x dx hx hdx ne => ?_⟩
  rw [List.append_nil]
  exact hs vs H Q E h x dx hx hdx ne
theorem PromCD.plainX {C q : Str} {st : Stmt} {N ps : List Str} {sp sp0 : Sp} {k : Nat} (mk : Mk K (He.ga K C) (He.ma K (He.ga K C) "__init__")) (hm : mg C = some (.ref (He.ga K C))) (D : DefAtM K C "__init__" q st) (S : FnScope N ps (defScope st))
    (len : ∀ vs H Q E, sp0 vs H Q E → vs.length = ps.length)
    (hb : ∀ (kV doc pm : Value) (an : Option Addr) (cdv ct : Value) (us : List Value), us.length = ps.length → bindArgs (PySem.W.fnOf "__init__" q (defArgs st) (defBody st) (defScope st) .none kV doc pm an cdv ct) ⟨us, []⟩ = pure (ps.zip us))
    (hbody : ∀ (f : Addr) (cdv : Value) (A : Around) (outer : List Env) (s : Shared) (H : Hp) (vs : List V) (Q : VK) (E : XK), Room k (A.deeper (envOfC q (defScope st) s.heap.objs.size f cdv)) → sp0 vs H Q E →
      ∃ t, PSs (cxOf (L2.CX P w) P w K mg base N q (defScope st) f cdv A outer s H E) (defBody st) t ∧ t { nx := fun _ H' => Q .non H', rt := Q } (start N vs) H)
    (hsp : ∀ vs H Q E, sp vs H Q E → ∀ x dx, H x = none → H dx = none → dx ≠ x → sp0 (.ref x :: vs) (upd (upd H dx (.own x)) x (.ins (He.ga K C) dx [])) (fun u H2 => u = .non ∧ Q (.ref x) H2) E) :
    PromCD P w K mg base (L2.CX P w) (k + 1) C q st ps sp := by
  obtain ⟨fd, F⟩ := D
  have F1 : FnOk P w K mg base (L2.CX P w) (k + 1) (He.ma K (He.ga K C) "__init__") fd ps sp0 := F.ok S len (fun cdv A outer s H vs Q E hr hs => hbody _ cdv A outer s H vs Q E hr hs)
  exact ⟨mk, hm, sp0, fd, F1, F.bindsN hb, F, hsp⟩
end
section
variable {P : Program} {w : World} {K : PySem.W.Frag} {mg : Str → Option Value} {base : Heap}
theorem PromMD.ofX {C m q : Str} {st : Stmt} {ps N : List Str} {sp : Sp} {k : Nat} (cl : Cls K (He.ga K C)) (me : Meth K (He.ga K C) m (He.ma K (He.ga K C) m)) (D : DefAtM K C m q st) (S : FnScope N ps (defScope st)) (len : ∀ vs H Q E, sp vs H Q E → vs.length = ps.length)
    (hb : ∀ (kV doc pm : Value) (an : Option Addr) (cdv ct : Value) (us : List Value), us.length = ps.length → bindArgs (PySem.W.fnOf m q (defArgs st) (defBody st) (defScope st) .none kV doc pm an cdv ct) ⟨us, []⟩ = pure (ps.zip us))
    (hbody : ∀ (f : Addr) (cdv : Value) (A : Around) (outer : List Env) (s : Shared) (H : Hp) (vs : List V) (Q : VK) (E : XK), Room k (A.deeper (envOfC q (defScope st) s.heap.objs.size f cdv)) → sp vs H Q E →
      ∃ t, PSs (cxOf (L2.CX P w) P w K mg base N q (defScope st) f cdv A outer s H E) (defBody st) t ∧ t { nx := fun _ H' => Q .non H', rt := Q } (start N vs) H) :
    PromMD P w K mg base (L2.CX P w) (k + 1) C m q st ps sp := by
  obtain ⟨fd, F⟩ := D
  exact ⟨cl, me, fd, F.ok S len (fun cdv A outer s H vs Q E hr hs => hbody _ cdv A outer s H vs Q E hr hs), F.bindsN hb, F⟩
end
/-- the new object's promise, in the arguments alone -/
def tNewK (sp : Sp) (E : XK) (tk : TA) : TE := fun σ H Q => tk σ H fun zs H2 => zs.length = 1 ∧ sp zs H2 Q E
section
variable {X : Cx} {CX : CXT} {k : Nat} {x q : Str} {st : Stmt} {ps ks : List Str} {sp : Sp} {E : XK} {p pos : Pos} {kws : List Keyword} {tk : TA}
theorem pe_newKP (G : PromCD X.prog X.w X.K X.mg X.base CX k x q st ps sp) (hr : Room (k + 1) X.A) (hg : Gl X x) (hne : ps.length = 2) (hk1 : ks.length = 1)
    (hb : ∀ (kV doc pm : Value) (an : Option Addr) (cdv ct u w : Value), bindArgs (PySem.W.fnOf "__init__" q (defArgs st) (defBody st) (defScope st) .none kV doc pm an cdv ct) ⟨[u], ks.zip [w]⟩ = pure (ps.zip [u, w]))
    (hx : Passes CX X E) (hkw : PK X kws tk) (hall : (backToKw pos (keywordEach kws X.env)).all (·.1.isSome) = true := by rfl) (hks : (backToKw pos (keywordEach kws X.env)).filterMap (·.1) = ks := by rfl)
    (hdb : (x == ("__debug__" : Str)) = false := by decide) (hpl : ((backTo pos (starEach [] X.env)).any (·.1) || (backToKw pos (keywordEach kws X.env)).any (·.1.isNone)) = false := by rfl) :
    PE X (.Call (.Name x p) [] kws pos) (tNewK sp E tk) := by
  obtain ⟨sp0, fd, F, _, D, hs⟩ := G.ex
  have kb := kb_two hne hb D
  have kn : KBn X.K fd ps 1 ks two1 two1 := ⟨fun s us ws i h1 h2 => kb.to s us ws i (by
    rw [hk1] at h2
    match us, ws, h1, h2 with
    | [_], [_], _, _ => rw [hne]; rfl), kb.rel⟩
  refine ⟨fun pins s σ H Q I h => ?_⟩
  refine wpAny_Call_Name_kw (ld_glob I hg G.mg_ ?_ hdb)
  refine PySem.W.callWith_KW0 (h₀ := X.base) I.ok.mod.kin G.make.kp hall ?_ hpl
  refine thn (hkw.run pos pins s σ H _ I h) fun ws s2 ⟨zs, H2, I2, rz, l2, q2⟩ => ⟨I2.kIn, ?_⟩
  rw [hks]
  refine run_makeK (us := []) (vs := []) G.make F hr kn hx I2 .nil rz rfl (l2.trans hk1.symm) (fun y dy h1 h2 h3 => ?_)
  match zs, l2, q2 with
  | [z], _, q2 => exact hs [z] H2 Q E q2 y dy h1 h2 h3
end
end Sz
/-! d[k] as one of several targets -/
namespace Sz
open PySem PySem.Spec PyProof.Rows L2
def tSetD : TSet := fun x y v H Q => ∃ (a : Addr) (H' : Hp), x = .ref a ∧ DPut H a y v H' ∧ Q H'
theorem set_dict {X : Cx} (hu : X.A.units + 1 < cLine) : PSet X tSetD := by
  intro pins s σ H o i v ov iv u Q I ro ri rv h
  obtain ⟨a, H', rfl, g, q⟩ := h
  obtain rfl : ov = Value.ref a := ro
  exact d_setItem hu I g ri rv fun s' I' => ⟨H', I', q⟩
end Sz
/-! x.replace of written texts within a list whose first item writes a text -/
namespace Sz
open PySem PySem.Spec PyProof.Rows L2
/-- behind it a token is out -/
def PE1 (X : Cx) (e : Expr) (t : TE) : Prop := ∀ (pins : List (Addr × Obj)) (s : Shared) (σ : L2.St) (H : Hp) (Q : VK), Inv X pins σ H s → t σ H Q → wpAny (model X.prog X.w) X.A (eval e X.env) (fun v s1 => 1 ≤ s1.toks ∧ EP X pins σ Q v s1) X.xe s
section
variable {X : Cx} {e : Expr} {es : List Expr} {te t : TE} {ta : TA} {r : R2} {y : Str} {j : Nat} {cp pos : Pos} {op : Operator}
theorem pe1_op (ho : OpR X (binaryOp op) r) (ha : PE X e te) : PE1 X (.BinOp e op (.Constant (.str y) j cp) pos) (tOp r te (tC (.str y))) := by
  intro pins s σ H Q I h
  refine wpAny_BinOp (thn (ha.run pins s σ H _ I h) fun v s1 q => ?_)
  obtain ⟨x, H1, I1, r1, q1⟩ := q
  refine Calls.Constant_str ?_
  have := ho pins { s1 with toks := s1.toks + 1 } σ H1 x (.str y) v (Value.str y s1.toks) Q (I1.tok (s1.toks + 1)) r1 ⟨s1.toks, rfl⟩ q1
  refine wpAny_mono (PySem.wpAny_toks this) (fun u s2 q => ?_) fun _ _ z => z.2
  have hk : s1.toks + 1 ≤ s2.toks := q.1
  exact ⟨by omega, q.2⟩
theorem pe_lst1 (h1 : PE1 X e t) (h : PAT X es ta) (hs : starEach (e :: es) X.env = (false, eval e X.env) :: starEach es X.env := by rfl) : PE X (.List (e :: es) pos) (tLst (tCons t ta)) := by
  refine ⟨fun pins s σ H Q I hq => ?_⟩
  refine wpAny_List_spliced ?_
  show wpAny _ _ (spliced (backTo pos (starEach (e :: es) X.env))) _ _ s
  rw [hs]
  show wpAny _ _ (spliced ((false, eval e X.env) :: backTo pos (starEach es X.env))) _ _ s
  refine Calls.spliced_cons (thn (h1 pins s σ H _ I hq) fun v s1 q => ?_)
  obtain ⟨hk, x, H1, I1, r1, q1⟩ := q
  refine thn (h pos pins s1 σ H1 _ hk I1 q1) fun us s2 ⟨xs, H2, I2, r2, z, q2⟩ => ⟨by rw [← (Paired.cons r1 r2).length]; exact z, ?_⟩
  have hf : H2 s2.heap.objs.size = none := I2.hok.fresh (Nat.le_refl _)
  refine ⟨.ref s2.heap.objs.size, upd H2 s2.heap.objs.size (.lst (x :: xs)), I2.laid (t' := s2.toks) (fun b u e => Heap.get?_push_of_some _ e) (Nat.le_refl _) ?_, rfl, q2 _ hf⟩
  exact ⟨z, v :: us, 0, .cons r1 r2, Heap.get?_push_size _ rfl⟩
end
end Sz
/-! a thing against data (the thing may be {}); a list against [] -/
namespace Sz
open PySem PySem.Spec PyProof.Rows L2
end Sz
namespace PySem.SeqAt
open PySem PySem.Spec PyProof.Rows
open MeetsSeq MeetsSeq2 MeetsSeq3 SeqRoads2
theorem sub_int_dict : isSubtype (.type "int") (.type "dict") = pure false := by rw [isSubtype_type]; kernel_rfl
theorem sub_dict_int : isSubtype (.type "dict") (.type "int") = pure false := by rw [isSubtype_type]; kernel_rfl
theorem dict_eq_declines_int (l : Addr) (es : Array DictEntry) (n : Nat) (b : Int) (u : Tok) :
    Meets (Builtin.«dict.__eq__» ⟨[.ref l, .int b u], []⟩) (fun _ R s => s.heap.get? l = some { cls := .type "dict", dict := none, data := .dict es n, slots := #[] } ∧ R (.ok (.ret .notImplemented)) s) :=
  .of_wp fun prog w A R s h => by
    obtain ⟨hp, g, d, tk, os⟩ := s
    obtain ⟨hl, h⟩ := h
    have f1 := sub_int_dict
    wp_walk using AutoSeq1.wpAny_loadPart' hl
    exact ⟨_, rfl, h⟩
theorem int_eq_declines_dict (b : Int) (u : Tok) (l : Addr) (es : Array DictEntry) (n : Nat) :
    Meets (Builtin.«int.__eq__» ⟨[.int b u, .ref l], []⟩) (fun _ R s => s.heap.get? l = some { cls := .type "dict", dict := none, data := .dict es n, slots := #[] } ∧ R (.ok (.ret .notImplemented)) s) :=
  .of_wp fun prog w A R s h => by
    obtain ⟨hp, g, d, tk, os⟩ := s
    obtain ⟨hl, h⟩ := h
    wp_walk using AutoSeq1.wpAny_loadPart' hl, wpAny_load hl
    exact ⟨_, rfl, h⟩
theorem RcAt.dict_int {A : Around} {s : Shared} {l : Addr} {es : Array DictEntry} {n : Nat} (b : Int) (u : Tok) (ho : s.heap.get? l = some { cls := .type "dict", dict := none, data := .dict es n, slots := #[] }) (hu : A.units < cLine) : RcAt A s (.ref l) (.int b u) false := fun prog w E Q h => by
  exact rc_eq_decline_or (k := false) ⟨_, ho, rfl⟩ (typeIs_int s b u) (by decide) sub_int_dict F.slot_dict_eq F.slot_int_eq_refl
    (fun _ hq => call_meets F.slot_dict_eq ⟨_, ho, rfl⟩ F.entry_dict_eq (F.args_dict_eq_2 _ _) (dict_eq_declines_int l es n b u) ⟨ho, hq⟩)
    (fun _ hq => call_meets F.slot_int_eq_refl (typeIs_int s b u) F.entry_int_eq (F.args_int_eq_2 _ _) (int_eq_declines_dict b u l es n) ⟨ho, hq⟩)
    (fun _ hq => wpAny_of_eq (rfl : isSame (.ref l) (.int b u) = pure false) hq) (.inr hu) h
end PySem.SeqAt
namespace Sz
open PySem PySem.Spec PyProof.Rows L2
/-- data, or {}, against an int -/
def rEqDE (K : PySem.W.Frag) : R2 := fun x y H Q => (∃ d e, Dp K H x d ∧ Dp K H y e ∧ SeqAt.shaped d = true ∧ SeqAt.shaped e = true ∧ Q (.bl (PyData.eqv d e)) H) ∨ ∃ a i, x = .ref a ∧ H a = some (.dK []) ∧ y = .int i ∧ Q (.bl false) H
section
variable {X : Cx}
theorem op_eqDE (hu : X.A.units + 64 < cLine) : OpR X (compareOp .Eq) (rEqDE X.K) := by
  intro pins s σ H x y v u Q I rx ry h
  rcases h with h | ⟨a, i, rfl, h, rfl, q⟩
  · exact op_eqD hu pins s σ H x y v u Q I rx ry h
  · cases (show v = Value.ref a from rx)
    obtain ⟨t, rfl⟩ := (show ∃ t, u = Value.int i t from ry)
    obtain ⟨_, ns, vs, kv, hd⟩ : ([] : List (Key × V)).length ≤ sizeLine ∧ (a == sysModules) = false ∧ ∃ vs, KV [] vs ∧ s.heap.DictOf (mixKind X.prog X.w) a vs := I.hok a _ h
    obtain ⟨⟨cls, dd, data, sl⟩, es, ep, e1, ⟨f1, f2, f3⟩, e3, _⟩ := hd
    simp only at f1 f2 f3 e3
    subst f1 f2 f3 e3
    exact SeqAt.RcAt.dict_int i t e1 (by omega) X.prog X.w _ _ ⟨.bl false, H, I, rfl, q⟩
/-- xs != [] -/
def rNeE (K : PySem.W.Frag) : R2 := fun x y H Q => ∃ (a b : Addr) (xs : List V), x = .ref a ∧ y = .ref b ∧ SqL K H a xs ∧ SqL K H b [] ∧ Q (.bl (!xs.isEmpty)) H
theorem op_neE (hu : X.A.units + 64 < cLine) : OpR X (compareOp .NotEq) (rNeE X.K) := by
  intro pins s σ H x y v u Q I rx ry h
  obtain ⟨a, b, xs, rfl, rfl, ha, hb, q⟩ := h
  cases xs with
  | nil => exact op_neL hu pins s σ H _ _ v u Q I rx ry ⟨1, by decide, ⟨a, b, [], [], rfl, rfl, ha, hb, .nil⟩, q⟩
  | cons x xs =>
    cases (show v = Value.ref a from rx)
    cases (show u = Value.ref b from ry)
    obtain ⟨us, r1, p1, _⟩ := I.list ha
    obtain ⟨ws, r2, p2, _⟩ := I.list hb
    have step := SeqAt.RcNeAt.lists_lengths (A := X.A) p1.isList p2.isList (by
      rw [List.size_toArray, List.size_toArray, ← r1.length, ← r2.length]
      simp) (by omega)
    exact step X.prog X.w _ _ ⟨.bl true, H, I, rfl, q⟩
/-- xs == [] -/
def rEqE (K : PySem.W.Frag) : R2 := fun x y H Q => ∃ (a b : Addr) (xs : List V), x = .ref a ∧ y = .ref b ∧ SqL K H a xs ∧ SqL K H b [] ∧ Q (.bl xs.isEmpty) H
theorem op_eqE (hu : X.A.units + 64 < cLine) : OpR X (compareOp .Eq) (rEqE X.K) := by
  intro pins s σ H x y v u Q I rx ry h
  obtain ⟨a, b, xs, rfl, rfl, ha, hb, q⟩ := h
  cases (show v = Value.ref a from rx)
  cases (show u = Value.ref b from ry)
  obtain ⟨us, r1, p1, _⟩ := I.list ha
  obtain ⟨ws, r2, p2, _⟩ := I.list hb
  cases xs with
  | nil =>
    cases r1
    cases r2
    have step := SeqAt.RcAt.lists (A := X.A) (e := fun _ => true) p1.isList p2.isList rfl (by omega) (fun j h1 h2 => absurd h1 (by simp))
    exact step X.prog X.w _ _ ⟨.bl true, H, I, rfl, q⟩
  | cons x xs =>
    have step := SeqAt.RcAt.lists_lengths (A := X.A) p1.isList p2.isList (by
      rw [List.size_toArray, List.size_toArray, ← r1.length, ← r2.length]
      simp) (by omega)
    exact step X.prog X.w _ _ ⟨.bl false, H, I, rfl, q⟩
end
end Sz
/-! list(zip(a, b)): the pairs are kept, so that zip makes each one anew -/
namespace PySem
open Sem (wp)
abbrev IsZipK (h : Heap) (z TI TO : Addr) (T : Addr) (b : Bool) : Prop :=
  h.get? z = some { cls := .type "zip", dict := none, data := .fields #[rawInt T, .bool b, .bool false, .ref TI, .ref TO], slots := #[] }
theorem wpAny_alive {M : Model} {A : Around} {E : Value → Shared → Prop} {a : Addr} {s : Shared} {Q : Option Obj → Shared → Prop} (h : Q (s.heap.get? a) s) : wpAny M A (loadIfAlive a) Q E s := fun Γ p _ => by
  show wp M Γ (.loadIfAlive a .pure) _ _ p s
  rw [Sem.wp_loadIfAlive]
  exact h
section
variable {prog : Program} {w : World} {A : Around} {E : Value → Shared → Prop} {s : Shared} {z TI TO i1 i2 T0 : Addr} {fp1 fp2 : List Addr} {n1 n2 i : Nat} {P1 P2 : Nat → Value → Prop} {St1 St2 : Nat → Heap → Prop} {o0 : Obj} {b : Bool}
/-- the pair is kept: it is not free -/
theorem zipK_kept {Q : Bool → Shared → Prop} (hz : IsZipK s.heap z TI TO T0 b) (h0 : s.heap.get? T0 = some o0)
    (h : ∀ h', IsZipK h' z TI TO T0 true → Heap.SameBut z s.heap h' → Q false { s with heap := h' }) : wpAny (model prog w) A (Builtin.SmallTypes.ownedTupleIsFree (.ref z)) Q E s := by
  unfold Builtin.SmallTypes.ownedTupleIsFree
  refine wpAny_bind (wpAny_field hz rfl (x := rawInt T0) rfl ?_)
  show wpAny _ _ (loadIfAlive ((T0 : Int).toNat) >>= _) _ _ s
  refine wpAny_bind (wpAny_alive ?_)
  rw [Int.toNat_natCast, h0]
  simp only [Option.isNone_some, Bool.false_eq_true, if_false]
  refine wpAny_bind (wpAny_field hz rfl (x := .bool b) rfl ?_)
  cases b with
  | true =>
    rw [if_neg (by decide)]
    refine wpAny_pure (h _ hz (Heap.SameBut.refl _ _))
  | false =>
    rw [if_pos (by decide)]
    refine wpAny_bind (wpAny_setField_rec hz (by simp) fun g0 hz0 hs0 => wpAny_pure (h _ hz0 hs0))
/-- a pair more, made anew -/
theorem zipK_item {Q : Value → Shared → Prop} (S : ZipSep2 z TI TO i1 i2 fp1 fp2) (D1 : Draws prog w A i1 fp1 n1 P1 St1) (D2 : Draws prog w A i2 fp2 n2 P2 St2)
    (hz : IsZipK s.heap z TI TO T0 b) (h0 : s.heap.get? T0 = some o0) (hTI : IsTupOf2 s.heap TI (.ref i1) (.ref i2)) (st1 : St1 i s.heap) (st2 : St2 i s.heap) (hlt1 : i < n1) (hlt2 : i < n2)
    (hQ : ∀ x1 x2 h' tk, P1 i x1 → P2 i x2 → IsZipK h' z TI TO T0 true → St1 (i + 1) h' → St2 (i + 1) h' → IsTupOf2 h' s.heap.objs.size x1 x2 → h'.objs.size = s.heap.objs.size + 1 →
      (∀ c o, c ≠ z → c ≠ i1 → c ≠ i2 → s.heap.get? c = some o → h'.get? c = some o) → Q (.ref s.heap.objs.size) { s with heap := h', toks := tk }) :
    wpAny (model prog w) A (Builtin.«zip.__next__» ⟨[.ref z], []⟩) (fun fin s' => ∃ v, fin = .done (.ret v) ∧ Q v s') E s := by
  obtain ⟨hp, g, d, tk0, os⟩ := s
  show wpAny _ _ (field (.ref z) 2 >>= _) _ _ _
  refine wpAny_bind (wpAny_field hz rfl (x := .bool false) rfl ?_)
  show wpAny _ _ (field (.ref z) 3 >>= _) _ _ _
  refine wpAny_bind (wpAny_field hz rfl (x := .ref TI) rfl ?_)
  refine wpAny_bind (wpAny_seqItems hTI rfl ?_)
  show wpAny _ _ (Builtin.SmallTypes.ownedTupleIsFree (.ref z) >>= _) _ _ _
  refine wpAny_bind (zipK_kept hz h0 fun g0 hz0 hs0 => ?_)
  replace hs0 : Heap.SameBut z hp g0 := hs0
  simp only [Bool.false_eq_true, if_false]
  simp only [List.forIn_toArray, List.forIn_cons, List.forIn_nil]
  refine wpAny_bind (wpAny_bind (wpAny_bind (wpAny_holding ?_)))
  show wpAny _ _ (Builtin.SmallTypes.nextOf (.ref i1) >>= _) _ _ ⟨g0, g, d, tk0, os⟩
  refine wpAny_bind (D1.item i _ _ _ hlt1 (D1.over st1 hs0 S.zf1) fun x1 p1 tk1 hx1 sn1 hp1 => wpAny_pure ?_)
  replace hp1 : Heap.SameBut i1 g0 p1 := hp1
  refine wpAny_pure ?_
  refine wpAny_bind (wpAny_bind (wpAny_holding ?_))
  show wpAny _ _ (Builtin.SmallTypes.nextOf (.ref i2) >>= _) _ _ ⟨p1, g, d, tk1, os⟩
  refine wpAny_bind (D2.item i _ _ _ hlt2 (D2.over (D2.over st2 hs0 S.zf2) hp1 S.sep1_2) fun x2 p2 tk2 hx2 sn2 hp2 => wpAny_pure ?_)
  replace hp2 : Heap.SameBut i2 p1 p2 := hp2
  refine wpAny_pure (wpAny_pure ?_)
  show wpAny _ _ (newTuple [x1, x2] >>= _) _ _ ⟨p2, g, d, tk2, os⟩
  refine wpAny_bind (wpAny_newTuple ?_)
  have hsz : p2.objs.size = hp.objs.size := by rw [hp2.1, hp1.1, hs0.1]
  refine wpAny_pure ⟨_, rfl, ?_⟩
  show Q (.ref p2.objs.size) ⟨p2.push { cls := .type "tuple", data := .seq #[x1, x2] }, g, d, tk2, os⟩
  rw [hsz]
  refine hQ x1 x2 _ tk2 hx1 hx2 ?_ ?_ ?_ ?_ ?_ ?_
  · exact Heap.get?_push_of_some _ (hp2.extBut _ _ S.zi2 (hp1.extBut _ _ S.zi1 hz0))
  · exact D1.frame _ _ _ (D1.over sn1 hp2 S.sep2_1) fun b _ o e => Heap.get?_push_of_some _ e
  · exact D2.frame _ _ _ sn2 fun b _ o e => Heap.get?_push_of_some _ e
  · have := Heap.get?_push_size p2 (o := { cls := .type "tuple", data := .seq #[x1, x2] }) rfl
    rw [hsz] at this
    exact this
  · rw [Heap.size_push, hsz]
  · exact fun c o cz c1 c2 e => Heap.get?_push_of_some _ (hp2.extBut _ _ c2 (hp1.extBut _ _ c1 (hs0.extBut _ _ cz e)))
theorem zipK_end {Q : Fin → Shared → Prop} (S : ZipSep2 z TI TO i1 i2 fp1 fp2) (D1 : Draws prog w A i1 fp1 n1 P1 St1) (D2 : Draws prog w A i2 fp2 n2 P2 St2)
    (hz : IsZipK s.heap z TI TO T0 b) (h0 : s.heap.get? T0 = some o0) (hTI : IsTupOf2 s.heap TI (.ref i1) (.ref i2)) (st1 : St1 n1 s.heap)
    (hE : ∀ h' tk e, (∀ c o, c ≠ z → c ≠ i1 → c ≠ i2 → s.heap.get? c = some o → h'.get? c = some o) → (∃ o, h'.get? e = some o ∧ o.cls = .type "StopIteration") → E (.ref e) { s with heap := h', toks := tk }) :
    wpAny (model prog w) A (Builtin.«zip.__next__» ⟨[.ref z], []⟩) Q E s := by
  obtain ⟨hp, g, d, tk0, os⟩ := s
  show wpAny _ _ (field (.ref z) 2 >>= _) _ _ _
  refine wpAny_bind (wpAny_field hz rfl (x := .bool false) rfl ?_)
  show wpAny _ _ (field (.ref z) 3 >>= _) _ _ _
  refine wpAny_bind (wpAny_field hz rfl (x := .ref TI) rfl ?_)
  refine wpAny_bind (wpAny_seqItems hTI rfl ?_)
  show wpAny _ _ (Builtin.SmallTypes.ownedTupleIsFree (.ref z) >>= _) _ _ _
  refine wpAny_bind (zipK_kept hz h0 fun g0 hz0 hs0 => ?_)
  replace hs0 : Heap.SameBut z hp g0 := hs0
  simp only [Bool.false_eq_true, if_false]
  simp only [List.forIn_toArray, List.forIn_cons, List.forIn_nil]
  refine wpAny_bind (wpAny_bind (wpAny_bind (wpAny_holding ?_)))
  show wpAny _ _ (Builtin.SmallTypes.nextOf (.ref i1) >>= _) _ _ ⟨g0, g, d, tk0, os⟩
  refine wpAny_bind (D1.done ⟨g0, g, d, tk0, os⟩ _ _ (D1.over st1 hs0 S.zf1) fun q e hq he => ?_)
  replace hq : Heap.ExtBut i1 g0 q := hq
  exact hE q tk0 e (fun c o cz c1 c2 x => hq _ _ c1 (hs0.extBut _ _ cz x)) he
theorem pyNext_zipK_item {Q : Option Value → Shared → Prop} (S : ZipSep2 z TI TO i1 i2 fp1 fp2) (D1 : Draws prog w A.in1 i1 fp1 n1 P1 St1) (D2 : Draws prog w A.in1 i2 fp2 n2 P2 St2)
    (hz : IsZipK s.heap z TI TO T0 b) (h0 : s.heap.get? T0 = some o0) (hTI : IsTupOf2 s.heap TI (.ref i1) (.ref i2)) (st1 : St1 i s.heap) (st2 : St2 i s.heap) (hlt1 : i < n1) (hlt2 : i < n2)
    (hQ : ∀ x1 x2 h' tk, P1 i x1 → P2 i x2 → IsZipK h' z TI TO T0 true → St1 (i + 1) h' → St2 (i + 1) h' → IsTupOf2 h' s.heap.objs.size x1 x2 → h'.objs.size = s.heap.objs.size + 1 →
      (∀ c o, c ≠ z → c ≠ i1 → c ≠ i2 → s.heap.get? c = some o → h'.get? c = some o) → Q (some (.ref s.heap.objs.size)) { s with heap := h', toks := tk }) :
    wpAny (model prog w) A (pyNext (.ref z)) Q E s := by
  have hT : s.TypeIs (.ref z) "zip" := ⟨_, hz, rfl⟩
  unfold pyNext
  exact wpAny_bind (wpAny_attempt (wpAny_callSpecial?_slot (name := Str.ofString "__next__") hT F.slot_zip_next
    (wpAny_call_entry F.slot_zip_next hT F.entry_zip_next
      (zipK_item S D1 D2 hz h0 hTI st1 st2 hlt1 hlt2 fun x1 x2 h' tk y1 y2 b1 b2 d1 d2 b5 b6 => wpAny_pure (hQ x1 x2 h' tk y1 y2 b1 b2 d1 d2 b5 b6)) (F.args_zip_next_1 _))))
theorem pyNext_zipK_end {Q : Option Value → Shared → Prop} (S : ZipSep2 z TI TO i1 i2 fp1 fp2) (D1 : Draws prog w A.in1 i1 fp1 n1 P1 St1) (D2 : Draws prog w A.in1 i2 fp2 n2 P2 St2)
    (hz : IsZipK s.heap z TI TO T0 b) (h0 : s.heap.get? T0 = some o0) (hTI : IsTupOf2 s.heap TI (.ref i1) (.ref i2)) (st1 : St1 n1 s.heap)
    (hQ : ∀ h' tk, (∀ c o, c ≠ z → c ≠ i1 → c ≠ i2 → s.heap.get? c = some o → h'.get? c = some o) → Q none { s with heap := h', toks := tk }) : wpAny (model prog w) A (pyNext (.ref z)) Q E s := by
  have hT : s.TypeIs (.ref z) "zip" := ⟨_, hz, rfl⟩
  unfold pyNext
  refine wpAny_bind (wpAny_attempt (wpAny_callSpecial?_slot (name := Str.ofString "__next__") hT F.slot_zip_next
    (wpAny_call_entry F.slot_zip_next hT F.entry_zip_next (zipK_end S D1 D2 hz h0 hTI st1 fun h' tk e hk he => ?_) (F.args_zip_next_1 _))))
  obtain ⟨o, ho, hc⟩ := he
  refine wpAny_bind (wpAny_isInstance (T := "StopIteration") (b := true) ⟨o, ho, hc⟩ isSubtype_stop ?_)
  exact wpAny_pure (hQ _ _ hk)
end
/-- the pairs laid so far -/
def ZPairs (h : Heap) (P1 P2 : Nat → Value → Prop) (N : Nat) (acc : Array Value) (i : Nat) : Prop :=
  acc.size = i ∧ (∀ j, j < i → ∃ T x1 x2, acc[j]? = some (.ref T) ∧ P1 j x1 ∧ P2 j x2 ∧ IsTupOf2 h T x1 x2 ∧ N ≤ T) ∧ ∀ (j k : Nat) (T : Addr), j < k → acc[j]? = some (Value.ref T) → acc[k]? = some (Value.ref T) → False
theorem ZPairs.nil {h : Heap} {P1 P2 : Nat → Value → Prop} {N : Nat} : ZPairs h P1 P2 N #[] 0 := ⟨rfl, fun j hj => absurd hj (Nat.not_lt_zero _), fun j k T _ e => by simp at e⟩
theorem ZPairs.off {h : Heap} {P1 P2 : Nat → Value → Prop} {N : Nat} {acc : Array Value} {i : Nat} (z : ZPairs h P1 P2 N acc i) : ∀ j : Nat, acc[j]? = some (Value.ref h.objs.size) → False := fun j e => by
  have hj : j < i := by
    have := (Array.getElem?_eq_some_iff.mp e).1
    rw [z.1] at this
    exact this
  obtain ⟨T, x1, x2, a, b, c, d, f⟩ := z.2.1 j hj
  rw [a] at e
  cases e
  exact Nat.lt_irrefl _ (Heap.lt_size d)
theorem ZPairs.keep {h h' : Heap} {P1 P2 : Nat → Value → Prop} {N : Nat} {acc : Array Value} {i : Nat} (z : ZPairs h P1 P2 N acc i) (k : ∀ T, N ≤ T → ∀ o, h.get? T = some o → h'.get? T = some o) : ZPairs h' P1 P2 N acc i :=
  ⟨z.1, fun j hj => (let ⟨T, x1, x2, a, b, c, d, e⟩ := z.2.1 j hj; ⟨T, x1, x2, a, b, c, k T e _ d, e⟩), z.2.2⟩
theorem ZPairs.push {h : Heap} {P1 P2 : Nat → Value → Prop} {N T : Nat} {acc : Array Value} {i : Nat} {x1 x2 : Value} (z : ZPairs h P1 P2 N acc i) (p1 : P1 i x1) (p2 : P2 i x2) (t : IsTupOf2 h T x1 x2) (n : N ≤ T) (ne : ∀ j : Nat, acc[j]? = some (Value.ref T) → False) : ZPairs h P1 P2 N (acc.push (.ref T)) (i + 1) := by
  have old : ∀ j, j < i → (acc.push (.ref T))[j]? = acc[j]? := fun j hj => by
    have h1 : j < acc.size := by rw [z.1]; exact hj
    rw [Array.getElem?_push_lt h1]
    simp [h1]
  have new : (acc.push (.ref T))[i]? = some (.ref T) := by
    have := z.1
    subst this
    simp
  refine ⟨by rw [Array.size_push, z.1], fun j hj => ?_, fun j k U hjk e1 e2 => ?_⟩
  · by_cases e : j = i
    · subst e
      exact ⟨T, x1, x2, new, p1, p2, t, n⟩
    · obtain ⟨T', y1, y2, a, b⟩ := z.2.1 j (by omega)
      exact ⟨T', y1, y2, (old j (by omega)).trans a, b⟩
  · have hk : k < i + 1 := by
      have := (Array.getElem?_eq_some_iff.mp e2).1
      rw [Array.size_push, z.1] at this
      exact this
    rw [old j (by omega)] at e1
    by_cases e : k = i
    · subst e
      rw [new] at e2
      cases e2
      exact ne j e1
    · rw [old k (by omega)] at e2
      exact z.2.2 j k U hjk e1 e2
section
variable {prog : Program} {w : World} {A : Around} {R : Result → Shared → Prop} {z TI TO i1 i2 T0 L : Addr} {fp1 fp2 : List Addr} {n N : Nat} {P1 P2 : Nat → Value → Prop} {St1 St2 : Nat → Heap → Prop}
theorem zipK_loop (S : ZipSep2 z TI TO i1 i2 fp1 fp2) (D1 : Draws prog w A.in1.in1 i1 fp1 n P1 St1) (D2 : Draws prog w A.in1.in1 i2 fp2 n P2 St2) (hn : n ≤ sizeLine) (lz : L ≠ z) (lt : L ≠ TI) (l1 : L ∉ fp1) (l2 : L ∉ fp2) (nz : z < N) (nl : L < N) (n1 : i1 < N) (n2 : i2 < N) (hT0 : N ≤ T0) (res : Value) :
    ∀ (k i : Nat) (s : Shared) (acc : Array Value) (c : Nat) (b : Bool), n - i = k → i ≤ n → IsZipK s.heap z TI TO T0 b → (∃ o0, s.heap.get? T0 = some o0) → IsTupOf2 s.heap TI (.ref i1) (.ref i2) → St1 i s.heap → St2 i s.heap → N ≤ s.heap.objs.size →
      s.heap.get? L = some { cls := .type "list", dict := none, data := .seq acc c, slots := #[] } → ZPairs s.heap P1 P2 N acc i →
      (∀ h' tk acc' c', (∀ a o, a ≠ z → a ≠ i1 → a ≠ i2 → a ≠ L → s.heap.get? a = some o → h'.get? a = some o) → h'.get? L = some { cls := .type "list", dict := none, data := .seq acc' c', slots := #[] } → ZPairs h' P1 P2 N acc' n → R (.ok (.ret res)) { s with heap := h', toks := tk }) →
      codeAny (model prog w) A (.builtin "list.extend.loop" ⟨[.ref L, .ref z, res], []⟩) R s := by
  have gt : ∀ {x T : Addr}, x < N → N ≤ T → T ≠ x := fun h1 h2 => Nat.ne_of_gt (Nat.lt_of_lt_of_le h1 h2)
  have m1 : L ≠ i1 := fun e => l1 (e ▸ S.mem1)
  have m2 : L ≠ i2 := fun e => l2 (e ▸ S.mem2)
  intro k
  induction k with
  | zero =>
    intro i s acc c b hk hi hz ⟨o0, h0⟩ hTI st1 st2 hN hL hacc hR
    have hin : i = n := by omega
    subst hin
    refine codeAny_builtin F.entry_extend_loop ?_
    rw [Around.under_plainId F.plain_extend_loop _]
    show wpAny _ A.in1 (pyNext (.ref z) >>= _) _ _ s
    refine wpAny_bind (pyNext_zipK_end S D1 D2 hz h0 hTI st1 fun h' tk kk => ?_)
    refine wpAny_pure (hR h' tk acc c (fun a o a1 a2 a3 _ e => kk a o a1 a2 a3 e) (kk _ _ lz m1 m2 hL) (hacc.keep fun T hT o e => kk T o (gt nz hT) (gt n1 hT) (gt n2 hT) e))
  | succ k ih =>
    intro i s acc c b hk hi hz ⟨o0, h0⟩ hTI st1 st2 hN hL hacc hR
    have hlt : i < n := by omega
    refine codeAny_builtin F.entry_extend_loop ?_
    rw [Around.under_plainId F.plain_extend_loop _]
    show wpAny _ A.in1 (pyNext (.ref z) >>= _) _ _ s
    refine wpAny_bind (pyNext_zipK_item S D1 D2 hz h0 hTI st1 st2 hlt hlt fun x1 x2 h' tk y1 y2 b1 b2 b3 b4 b5 kk => ?_)
    have hL' := kk _ _ lz m1 m2 hL
    show wpAny _ A.in1 (updateSeq L (·.push (.ref s.heap.objs.size)) >>= _) _ _ _
    refine wpAny_bind ?_
    have oth : ∀ a o, a ≠ L → h'.get? a = some o → (h'.update L (Obj.mapSeq (·.push (.ref s.heap.objs.size)))).get? a = some o := fun a o ne e => (Heap.get?_update_other _ _ (Ne.symm ne)).trans e
    refine wpAny_updateSeq hL' rfl (wpAny_pure ⟨plainId_quiet F.plain_extend_loop _, ih (i + 1) _ (acc.push (.ref s.heap.objs.size)) _ true (by omega) hlt (oth _ _ (Ne.symm lz) b1) ⟨o0, oth _ _ (gt nl hT0) (kk _ _ (gt nz hT0) (gt n1 hT0) (gt n2 hT0) h0)⟩ (oth _ _ (Ne.symm lt) (kk _ _ S.TIz S.TIi1 S.TIi2 hTI))
      (D1.frame _ _ _ b2 fun b hb o e => oth b o (fun q => l1 (q ▸ hb)) e) (D2.frame _ _ _ b3 fun b hb o e => oth b o (fun q => l2 (q ▸ hb)) e) ?_ (Heap.get?_update_self _ hL' rfl) ?_ fun h'' tk'' acc' c' k2 hL2 hacc2 => ?_⟩)
      (by rw [hacc.1]; omega) (by show (acc.push _).size ≤ sizeLine + 1; rw [Array.size_push, hacc.1]; omega)
    · show N ≤ (h'.update L _).objs.size
      rw [Heap.size_update, b5]
      exact Nat.le_succ_of_le hN
    · refine (hacc.keep fun T hT o e => oth T o (gt nl hT) (kk T o (gt nz hT) (gt n1 hT) (gt n2 hT) e)).push y1 y2 (oth _ _ (gt nl hN) b4) hN hacc.off
    · exact hR h'' tk'' acc' c' (fun a o a1 a2 a3 a4 e => k2 a o a1 a2 a3 a4 (oth a o a4 (kk a o a1 a2 a3 e))) hL2 hacc2
/-- from the first pair on -/
theorem zipL_loop (S : ZipSep2 z TI TO i1 i2 fp1 fp2) (D1 : Draws prog w A.in1.in1 i1 fp1 n P1 St1) (D2 : Draws prog w A.in1.in1 i2 fp2 n P2 St2) (hn : n ≤ sizeLine) (lz : L ≠ z) (lt : L ≠ TI) (lo : L ≠ TO) (l1 : L ∉ fp1) (l2 : L ∉ fp2) (nz : z < N) (nl : L < N) (n1 : i1 < N) (n2 : i2 < N) (no : TO < N) (res : Value)
    {s : Shared} {c : Nat} (hz : IsZip s.heap z TI TO .none) (hTI : IsTupOf2 s.heap TI (.ref i1) (.ref i2)) (hTO : IsTupOf2 s.heap TO .none .none) (st1 : St1 0 s.heap) (st2 : St2 0 s.heap) (hN : N ≤ s.heap.objs.size)
    (hL : s.heap.get? L = some { cls := .type "list", dict := none, data := .seq #[] c, slots := #[] })
    (hR : ∀ h' tk acc' c', (∀ a o, a ≠ z → a ≠ TO → a ≠ i1 → a ≠ i2 → a ≠ L → s.heap.get? a = some o → h'.get? a = some o) → h'.get? L = some { cls := .type "list", dict := none, data := .seq acc' c', slots := #[] } → ZPairs h' P1 P2 N acc' n → R (.ok (.ret res)) { s with heap := h', toks := tk }) :
    codeAny (model prog w) A (.builtin "list.extend.loop" ⟨[.ref L, .ref z, res], []⟩) R s := by
  have gt : ∀ {x T : Addr}, x < N → N ≤ T → T ≠ x := fun h1 h2 => Nat.ne_of_gt (Nat.lt_of_lt_of_le h1 h2)
  have m1 : L ≠ i1 := fun e => l1 (e ▸ S.mem1)
  have m2 : L ≠ i2 := fun e => l2 (e ▸ S.mem2)
  refine codeAny_builtin F.entry_extend_loop ?_
  rw [Around.under_plainId F.plain_extend_loop _]
  show wpAny _ A.in1 (pyNext (.ref z) >>= _) _ _ s
  by_cases h0 : n = 0
  · subst h0
    refine wpAny_bind (wpAny_pyNext_zipD2_end S D1 D2 hz hTI hTO st1 st2 (Nat.le_refl _) (Nat.le_refl _) (.inl rfl) fun h' tk kk => ?_)
    exact wpAny_pure (hR h' tk #[] c (fun a o a1 a2 a3 a4 _ e => kk a o a1 a2 a3 a4 e) (kk _ _ lz lo m1 m2 hL) .nil)
  · have hlt : 0 < n := Nat.pos_of_ne_zero h0
    refine wpAny_bind (wpAny_pyNext_zipD2_item S D1 D2 hz hTI hTO st1 st2 hlt hlt fun x1 x2 h' tk y1 y2 b1 b2 b3 b4 b5 b6 kk => ?_)
    have hL' := kk _ _ lz lo m1 m2 hL
    show wpAny _ A.in1 (updateSeq L (·.push (.ref s.heap.objs.size)) >>= _) _ _ _
    refine wpAny_bind ?_
    have oth : ∀ a o, a ≠ L → h'.get? a = some o → (h'.update L (Obj.mapSeq (·.push (.ref s.heap.objs.size)))).get? a = some o := fun a o ne e => (Heap.get?_update_other _ _ (Ne.symm ne)).trans e
    refine wpAny_updateSeq hL' rfl (wpAny_pure ⟨plainId_quiet F.plain_extend_loop _, zipK_loop S D1 D2 hn lz lt l1 l2 nz nl n1 n2 (T0 := s.heap.objs.size) hN res (n - 1) 1 _ _ _ false rfl hlt (oth _ _ (Ne.symm lz) b1) ⟨_, oth _ _ (gt nl hN) b5⟩ (oth _ _ (Ne.symm lt) (kk _ _ S.TIz S.TITO S.TIi1 S.TIi2 hTI))
      (D1.frame _ _ _ b3 fun b hb o e => oth b o (fun q => l1 (q ▸ hb)) e) (D2.frame _ _ _ b4 fun b hb o e => oth b o (fun q => l2 (q ▸ hb)) e) ?_ (Heap.get?_update_self _ hL' rfl) ?_ fun h'' tk'' acc' c' k2 hL2 hacc2 => ?_⟩)
      (by show (0 : Nat) ≤ _; exact Nat.zero_le _) (by show (1 : Nat) ≤ sizeLine + 1; omega)
    · show N ≤ (h'.update L _).objs.size
      rw [Heap.size_update, b6]
      exact Nat.le_succ_of_le hN
    · exact ZPairs.push .nil y1 y2 (oth _ _ (gt nl hN) b5) hN (fun j e => by simp at e)
    · exact hR h'' tk'' acc' c' (fun a o a1 a0 a2 a3 a4 e => k2 a o a1 a2 a3 a4 (oth a o a4 (kk a o a1 a0 a2 a3 e))) hL2 hacc2
end
theorem zip_nolen : typeLookup (.type "zip") "__len__" = pure none := by rw [typeLookup_type, builtinLookup_eq_fast]; kernel_rfl
theorem zip_nohint : typeLookup (.type "zip") "__length_hint__" = pure none := by rw [typeLookup_type, builtinLookup_eq_fast]; kernel_rfl
section
variable {prog : Program} {w : World} {A : Around} {E : Value → Shared → Prop} {s : Shared}
theorem zipL_hint {r : Addr} {Q : Bool → Shared → Prop} (hT : s.TypeIs (.ref r) "zip") (h : Q true s) : wpAny (model prog w) A (Builtin.List.listLengthHint (.ref r)) Q E s := by
  unfold Builtin.List.listLengthHint
  refine wpAny_bind (wpAny_specialOf hT zip_nolen ?_)
  show wpAny _ A (specialOf (Value.ref r) (Str.ofString "__length_hint__") >>= _) _ _ _
  refine wpAny_bind (wpAny_specialOf hT zip_nohint ?_)
  exact wpAny_pure h
/-- list(z), z a new zip over two lists of one length -/
theorem zipL_call {z TI TO i1 i2 : Addr} {fp1 fp2 : List Addr} {n : Nat} {P1 P2 : Nat → Value → Prop} {St1 St2 : Nat → Heap → Prop} {Q : Value → Shared → Prop} (S : ZipSep2 z TI TO i1 i2 fp1 fp2) (D1 : ∀ A : Around, A.handled = none → Draws prog w A i1 fp1 n P1 St1) (D2 : ∀ A : Around, A.handled = none → Draws prog w A i2 fp2 n P2 St2) (hh : A.handled = none) (hn : n ≤ sizeLine)
    (hz : IsZip s.heap z TI TO .none) (hTI : IsTupOf2 s.heap TI (.ref i1) (.ref i2)) (hTO : IsTupOf2 s.heap TO .none .none) (st1 : St1 0 s.heap) (st2 : St2 0 s.heap) (f1 : ∀ b ∈ fp1, b < s.heap.objs.size) (f2 : ∀ b ∈ fp2, b < s.heap.objs.size)
    (hQ : ∀ h' tk acc c, (∀ a o, a ≠ z → a ≠ TO → a ≠ i1 → a ≠ i2 → s.heap.get? a = some o → h'.get? a = some o) → h'.get? s.heap.objs.size = some { cls := .type "list", dict := none, data := .seq acc c, slots := #[] } → ZPairs h' P1 P2 (s.heap.objs.size + 1) acc n → Q (.ref s.heap.objs.size) { s with heap := h', toks := tk }) :
    wpAny (model prog w) A (call (.type "list") [.ref z]) Q E s := by
  refine callType_codes (Q₁ := fun obj s₁ => obj = .ref s.heap.objs.size ∧ s₁ = { s with heap := s.heap.push { cls := .type "list", data := .seq #[] } }) PySem.F.called_list (PySem.F.typeCall_list_1 _) PySem.F.entry_list_init
    (code_list_new _ ⟨rfl, rfl⟩) fun obj s₁ h₁ => ?_
  obtain ⟨rfl, rfl⟩ := h₁
  obtain ⟨hp, g, d, tk, os⟩ := s
  have hS : (hp.push { cls := .type "list", data := .seq #[] }).get? hp.objs.size = some { cls := .type "list", data := .seq #[] } := Heap.get?_push_size _ rfl
  have kp : ∀ b o, hp.get? b = some o → (hp.push { cls := .type "list", data := .seq #[] }).get? b = some o := fun b o e => Heap.get?_push_of_some _ e
  have lt : ∀ {b : Addr} {o : Obj}, hp.get? b = some o → hp.objs.size ≠ b := fun e => Nat.ne_of_gt (Heap.lt_size e)
  have lt2 : ∀ {b : Addr} {o : Obj}, hp.get? b = some o → b < hp.objs.size + 1 := fun e => Nat.lt_succ_of_lt (Heap.lt_size e)
  refine ⟨⟨_, hS, rfl⟩, PySem.F.args_list_init_2 _ _, ?_⟩
  show wpAny _ _ (do let old ← Builtin.List.listItems (.ref hp.objs.size); Builtin.List.listUpdate (.ref hp.objs.size) (fun _ => #[]); letGo old.toList.reverse; Builtin.List.listExtendWith (.ref hp.objs.size) (.ref z) .none) _ _ _
  refine wpAny_bind ?_
  unfold Builtin.List.listItems
  refine wpAny_bind (wpAny_seqItems hS rfl (wpAny_pure ?_))
  show wpAny _ _ (updateSeq hp.objs.size (fun _ => #[]) >>= fun _ => letGo (#[] : Array Value).toList.reverse >>= fun _ => Builtin.List.listExtendWith (.ref hp.objs.size) (.ref z) .none) _ _ _
  refine wpAny_bind (wpAny_updateSeq hS rfl ?_)
  have hS₂ := Heap.get?_update_self (Obj.mapSeq (fun _ => (#[] : Array Value))) hS rfl
  have oth : ∀ b o, b ≠ hp.objs.size → hp.get? b = some o → ((hp.push { cls := .type "list", data := .seq #[] }).update hp.objs.size (Obj.mapSeq (fun _ => (#[] : Array Value)))).get? b = some o :=
    fun b o hb e => (Heap.get?_update_other _ _ (Ne.symm hb)).trans (kp b o e)
  refine wpAny_bind (wpAny_letGo ?_)
  unfold Builtin.List.listExtendWith
  have hz2 := oth _ _ (Ne.symm (lt hz)) hz
  refine wpAny_bind (wpAny_typeOf (T := "zip") ⟨_, hz2, rfl⟩ ?_)
  have h1 : Builtin.List.listSameRef (.ref hp.objs.size) (.ref z) = false := by simp [Builtin.List.listSameRef, lt hz]
  rw [if_neg (by rw [h1]; decide)]
  refine wpAny_bind (wpAny_pyIter_zip hz2 ?_)
  refine wpAny_bind (wpAny_holding (zipL_hint ⟨_, hz2, rfl⟩ ?_))
  rw [if_pos (by simp)]
  refine wpAny_bind (wpAny_rule ?_)
  refine wpAny_bind ?_
  show wpAny _ _ (updateSeq hp.objs.size (·.push .none) >>= fun _ => updateSeq hp.objs.size (·.pop)) _ _ _
  refine wpAny_bind (wpAny_updateSeq hS₂ rfl ?_)
  have hS₃ := Heap.get?_update_self (Obj.mapSeq (·.push Value.none)) hS₂ rfl
  refine wpAny_updateSeq (hz := by seq_fits) hS₃ rfl ?_
  have hS₄ := Heap.get?_update_self (Obj.mapSeq (·.pop)) hS₃ rfl
  have oth4 : ∀ b o, b ≠ hp.objs.size → hp.get? b = some o → ((((hp.push { cls := .type "list", data := .seq #[] }).update hp.objs.size (Obj.mapSeq (fun _ => (#[] : Array Value)))).update hp.objs.size (Obj.mapSeq (·.push Value.none))).update hp.objs.size (Obj.mapSeq (·.pop))).get? b = some o :=
    fun b o hb e => (Heap.get?_update_other _ _ (Ne.symm hb)).trans ((Heap.get?_update_other _ _ (Ne.symm hb)).trans (oth b o hb e))
  have af : A.in1.in1.in1.handled = none := hh
  have ne1 : hp.objs.size ∉ fp1 := fun q => Nat.lt_irrefl _ (f1 _ q)
  have ne2 : hp.objs.size ∉ fp2 := fun q => Nat.lt_irrefl _ (f2 _ q)
  refine wpAny_pure ⟨plainId_quiet PySem.F.plain_extend_loop _, zipL_loop (A := A.in1) (N := hp.objs.size + 1) S (D1 _ af) (D2 _ af) hn (lt hz) (lt hTI) (lt hTO) ne1 ne2 (lt2 hz) (Nat.lt_succ_self _) (Nat.lt_succ_of_lt (f1 _ S.mem1)) (Nat.lt_succ_of_lt (f2 _ S.mem2)) (lt2 hTO) .none
    (oth4 _ _ (Ne.symm (lt hz)) hz) (oth4 _ _ (Ne.symm (lt hTI)) hTI) (oth4 _ _ (Ne.symm (lt hTO)) hTO) ((D1 _ af).frame _ _ _ st1 fun b hb o e => oth4 b o (fun q => ne1 (q ▸ hb)) e) ((D2 _ af).frame _ _ _ st2 fun b hb o e => oth4 b o (fun q => ne2 (q ▸ hb)) e) ?_ hS₄ fun h' tk' acc' c' k2 hL hz' => ?_⟩
  · show _ ≤ (((((hp.push { cls := .type "list", data := .seq #[] }).update _ _).update _ _).update _ _)).objs.size
    rw [Heap.size_update, Heap.size_update, Heap.size_update, Heap.size_push]
    exact Nat.le_refl _
  · exact ⟨rfl, hQ h' tk' acc' c' (fun a o a1 a2 a3 a4 e => k2 a o a1 a2 a3 a4 (Ne.symm (lt e)) (oth4 a o (Ne.symm (lt e)) e)) hL hz'⟩
end
end PySem
namespace Sz
open PySem PySem.Spec PyProof.Rows L2
section
variable {X : Cx} {pins : List (Addr × Obj)} {σ : L2.St} {H H' : Hp} {s : Shared} {h' : Heap} {t' : Nat}
/-- many new objects at once -/
theorem inv_many (I : Inv X pins σ H s) (k : ∀ b u, s.heap.get? b = some u → h'.get? b = some u) (sm : Same H H') (nw : ∀ b u, H' b = some u → H b = some u ∨ (s.heap.objs.size ≤ b ∧ ObjOk X.prog X.w H' h' b u)) : Inv X pins σ H' { s with heap := h', toks := t' } := by
  refine I.un ⟨fun b u q _ _ _ => k b u q, fun b u q _ _ _ => ⟨u.slots, k b u q⟩, fun b u q n _ => ?_, fun b u q _ => ⟨u, k b u q⟩, fun b xs q => sm _ _ q, fun b o u q => sm _ _ q, fun b ps q => ⟨#[], by rw [sm _ _ q]; simp⟩⟩ (fun b u e => ?_)
  · cases z : H' b with
    | none => rfl
    | some v =>
      rcases nw b v z with a | ⟨a, _⟩
      · rw [n] at a; cases a
      · exact absurd (Heap.lt_size q) (Nat.not_lt.mpr a)
  · rcases nw b u e with a | ⟨_, a⟩
    · exact (I.hok b u a).stay (fun c v _ q => k c v q) (fun c q => sm _ _ q) fun c xs q => sm _ _ q
    · exact a
end
open Classical in
/-- n pairs, at T 0, T 1, .. -/
noncomputable def pairsH (n : Nat) (T : Nat → Addr) (xs ys : List V) (b : Addr) : Option HO := if h : ∃ j, j < n ∧ T j = b then some (.tup [xs.getD (Classical.choose h) .non, ys.getD (Classical.choose h) .non]) else none
theorem pairsH_at {n : Nat} {T : Nat → Addr} {xs ys : List V} {j : Nat} (inj : ∀ i k, i < n → k < n → T i = T k → i = k) (hj : j < n) : pairsH n T xs ys (T j) = some (.tup [xs.getD j .non, ys.getD j .non]) := by
  have h : ∃ i, i < n ∧ T i = T j := ⟨j, hj, rfl⟩
  have e : Classical.choose h = j := inj _ _ (Classical.choose_spec h).1 hj (Classical.choose_spec h).2
  unfold pairsH
  rw [dif_pos h, e]
theorem pairsH_some {n : Nat} {T : Nat → Addr} {xs ys : List V} {b : Addr} {u : HO} (h : pairsH n T xs ys b = some u) : ∃ j, j < n ∧ T j = b ∧ u = .tup [xs.getD j .non, ys.getD j .non] := by
  unfold pairsH at h
  split at h
  · rename_i z
    cases h
    exact ⟨_, (Classical.choose_spec z).1, (Classical.choose_spec z).2, rfl⟩
  · cases h
def tLstZip (K : PySem.W.Frag) (ta : TA) : TE := fun σ H Q => ta σ H fun vs H1 => ∃ a b xs ys, vs = [.ref a, .ref b] ∧ SqL K H1 a xs ∧ SqL K H1 b ys ∧ xs.length = ys.length ∧
  ∀ (p : Addr) (H2 : Hp) (ts : List V), H1 p = none → Same H1 H2 → H2 p = some (.lst ts) → ts.length = xs.length → (∀ (j : Nat) x y, xs[j]? = some x → ys[j]? = some y → ∃ T, ts[j]? = some (V.ref T) ∧ H1 T = none ∧ H2 T = some (.tup [x, y])) → Q (.ref p) H2
theorem pe_listZip {X : Cx} {e e2 : Expr} {ta : TA} {p p2 pos pos2 : Pos} (hc : X.calm = true) (hgl : Gl X "list") (hml : X.mg "list" = none) (hg : Gl X "zip") (hm : X.mg "zip" = none) (ha : PA X [e, e2] ta)
    (hs : starEach [e, e2] X.env = (false, eval e X.env) :: starEach [e2] X.env := by rfl) (hpl : (backTo pos2 (starEach [e2] X.env)).any (·.1) = false := by rfl)
    (na : starEach [.Call (.Name "zip" p2) [e, e2] [] pos2] X.env = (false, eval (.Call (.Name "zip" p2) [e, e2] [] pos2) X.env) :: starEach [] X.env := by rfl) :
    PE X (.Call (.Name "list" p) [.Call (.Name "zip" p2) [e, e2] [] pos2] [] pos) (tLstZip X.K ta) := by
  refine ⟨fun pins s σ H Q I h => ?_⟩
  refine Call_ (ld_blt I hgl hml boot_list (PyProof.Rows.callWith_type1 (args_cons ?_ na) na))
  refine Call_ (ld_blt I hg hm PyProof.Rows.boot_zip (PyProof.Rows.callWith_type1 (thn (ha.run pos2 pins s σ H _ I h) fun us s1 ⟨vs, H1, I1, r1, q1⟩ => ?_) hs hpl))
  obtain ⟨a, b, xs, ys, ex, hqx, hqy, hl, q⟩ := q1
  subst ex
  cases r1 with
  | cons r rr =>
    cases rr with
    | cons r' rr =>
      cases rr
      cases r
      cases r'
      obtain ⟨its, rv, p1, zs⟩ := I1.list hqx
      obtain ⟨its2, rv2, p2', _⟩ := I1.list hqy
      have la : a < s1.heap.objs.size := p1.lt
      have lb : b < s1.heap.objs.size := p2'.lt
      have e1 : its.length = xs.length := rv.length.symm
      have e2 : its2.length = its.length := by rw [e1, hl]; exact rv2.length.symm
      refine zip_begins2 (begins_list a its.toArray) (begins_list b its2.toArray) p1.isList p2'.isList fun h1 hz hTI hTO g1 g2 hsz hk => args_nil ?_
      have hd := I1.ok.hd hc
      refine zipL_call (s := { s1 with heap := h1 }) (fp1 := [s1.heap.objs.size, a]) (fp2 := [s1.heap.objs.size + 1, b]) (n := its.toArray.size) (P1 := fun i v => its.toArray[i]? = some v) (P2 := fun i v => its2.toArray[i]? = some v) (St1 := fun i h => h.IsListIter s1.heap.objs.size a i ∧ h.IsList a its.toArray) (St2 := fun i h => h.IsListIter (s1.heap.objs.size + 1) b i ∧ h.IsList b its2.toArray)
        (zip_sep2 (N := s1.heap.objs.size) (fp1 := [a]) (fp2 := [b]) (by simpa using la) (by simpa using lb)) (fun A hA => Draws.list hA _ a (Nat.ne_of_lt la) its.toArray) (fun A hA => ?_) hd ?_ hz hTI hTO ⟨⟨_, g1, rfl, rfl⟩, ?_⟩ ⟨⟨_, g2, rfl, rfl⟩, ?_⟩ ?_ ?_ fun h2 tk acc c k2 hL zp => ?_
      · rw [show its.toArray.size = its2.toArray.size by simp [e2]]
        exact Draws.list hA _ b (Nat.ne_of_lt (Nat.lt_succ_of_lt lb)) its2.toArray
      · show its.length ≤ sizeLine
        first | exact zs | (rw [e1]; exact zs) | omega
      · exact p1.isList.at fun o e => hk a o e
      · exact p2'.isList.at fun o e => hk b o e
      · intro c hcm
        show c < h1.objs.size
        rw [hsz]
        rcases List.mem_cons.mp hcm with z | z
        · rw [z]; exact Nat.lt_add_of_pos_right (by decide)
        · rw [List.mem_singleton.mp z]; exact Nat.lt_of_lt_of_le la (Nat.le_add_right _ _)
      · intro c hcm
        show c < h1.objs.size
        rw [hsz]
        rcases List.mem_cons.mp hcm with z | z
        · rw [z]; exact Nat.add_lt_add_left (by decide) _
        · rw [List.mem_singleton.mp z]; exact Nat.lt_of_lt_of_le lb (Nat.le_add_right _ _)
      · replace hL : h2.get? h1.objs.size = some { cls := .type "list", dict := none, data := .seq acc c, slots := #[] } := hL
        show EP X pins σ Q (.ref h1.objs.size) { s1 with heap := h2, toks := tk }
        replace zp : ZPairs h2 (fun i v => its.toArray[i]? = some v) (fun i v => its2.toArray[i]? = some v) (h1.objs.size + 1) acc its.toArray.size := zp
        rw [hsz] at hL zp ⊢
        have hn : its.toArray.size = xs.length := by simp [e1]
        rw [hn] at zp
        let T : Nat → Addr := fun j => match acc[j]? with
          | some (.ref a) => a
          | _ => 0
        have hT : ∀ j, j < xs.length → ∃ x1 x2, acc[j]? = some (.ref (T j)) ∧ its[j]? = some x1 ∧ its2[j]? = some x2 ∧ IsTupOf2 h2 (T j) x1 x2 ∧ s1.heap.objs.size + 6 ≤ T j := fun j hj => by
          obtain ⟨U, x1, x2, a1, a2, a3, a4, a5⟩ := zp.2.1 j hj
          have : T j = U := by show (match acc[j]? with | some (.ref a) => a | _ => 0) = U; rw [a1]
          rw [this]
          exact ⟨x1, x2, a1, by simpa using a2, by simpa using a3, a4, a5⟩
        have inj : ∀ i k, i < xs.length → k < xs.length → T i = T k → i = k := fun i k hi hk e => by
          obtain ⟨_, _, b1, _⟩ := hT i hi
          obtain ⟨_, _, b2, _⟩ := hT k hk
          rcases Nat.lt_trichotomy i k with z | z | z
          · rw [← e] at b2
            exact (zp.2.2 i k _ z b1 b2).elim
          · exact z
          · rw [e] at b1
            exact (zp.2.2 k i _ z b2 b1).elim
        have ge : ∀ j, j < xs.length → s1.heap.objs.size + 6 ≤ T j := fun j hj => let ⟨_, _, _, _, _, _, z⟩ := hT j hj; z
        let ts : List V := (List.range xs.length).map fun j => V.ref (T j)
        let H2 : Hp := fun b => if b = s1.heap.objs.size + 5 then some (.lst ts) else match pairsH xs.length T xs ys b with
          | some u => some u
          | none => H1 b
        have hp5 : H1 (s1.heap.objs.size + 5) = none := I1.hok.fresh (Nat.le_add_right _ _)
        have sm : Same H1 H2 := fun b u e => by
          show (if b = s1.heap.objs.size + 5 then some (.lst ts) else match pairsH xs.length T xs ys b with
            | some u => some u
            | none => H1 b) = some u
          rw [if_neg (ne_of_none e hp5)]
          cases z : pairsH xs.length T xs ys b with
          | none => exact e
          | some v =>
            obtain ⟨j, hj, rfl, _⟩ := pairsH_some z
            rw [I1.hok.fresh (Nat.le_trans (Nat.le_add_right _ 6) (ge j hj))] at e
            cases e
        have tl : ts.length = xs.length := by simp [ts]
        have hts : H2 (s1.heap.objs.size + 5) = some (.lst ts) := if_pos rfl
        refine ⟨.ref (s1.heap.objs.size + 5), H2, inv_many I1 (fun b u e => ?_) sm (fun b u e => ?_), rfl, q _ H2 ts hp5 sm hts tl fun j x y hx hy => ?_⟩
        · have hlt := Heap.lt_size e
          refine k2 b u ?_ ?_ ?_ ?_ (hk b u e)
          · exact Nat.ne_of_lt (Nat.lt_of_lt_of_le hlt (Nat.le_add_right _ _))
          · exact Nat.ne_of_lt (Nat.lt_of_lt_of_le hlt (Nat.le_add_right _ _))
          · exact Nat.ne_of_lt hlt
          · exact Nat.ne_of_lt (Nat.lt_of_lt_of_le hlt (Nat.le_add_right _ _))
        · replace e : (if b = s1.heap.objs.size + 5 then some (.lst ts) else match pairsH xs.length T xs ys b with
            | some u => some u
            | none => H1 b) = some u := e
          by_cases hb : b = s1.heap.objs.size + 5
          · rw [if_pos hb] at e
            cases e
            subst hb
            refine .inr ⟨Nat.le_add_right _ _, ?_⟩
            refine ⟨by rw [tl]; first | exact zs | (rw [← e1]; exact zs), acc.toList, c, ?_, by simpa using hL⟩
            have al : acc.toList.length = xs.length := by rw [Array.length_toList]; exact zp.1
            show Vals ((List.range xs.length).map fun j => V.ref (T j)) acc.toList
            rw [← al]
            refine vals_of_get acc.toList _ fun j u hu => ?_
            have hj : j < xs.length := by
              rw [← al]
              exact (List.getElem?_eq_some_iff.mp hu).1
            obtain ⟨_, _, b1, _⟩ := hT j hj
            have b2 : acc[j]? = some u := by simpa using hu
            rw [b1] at b2
            cases b2
            rfl
          · rw [if_neg hb] at e
            cases z : pairsH xs.length T xs ys b with
            | none =>
              rw [z] at e
              exact .inl e
            | some v =>
              rw [z] at e
              cases e
              obtain ⟨j, hj, rfl, rfl⟩ := pairsH_some z
              obtain ⟨x1, x2, c1, c2, c3, c4, c5⟩ := hT j hj
              refine .inr ⟨Nat.le_trans (Nat.le_add_right _ 6) c5, (by show 2 ≤ sizeLine; decide), [x1, x2], ?_, ⟨_, c4, rfl, _, rfl⟩⟩
              obtain ⟨x, hx⟩ : ∃ x, xs[j]? = some x := ⟨_, List.getElem?_eq_getElem hj⟩
              obtain ⟨y, hy⟩ : ∃ y, ys[j]? = some y := ⟨_, List.getElem?_eq_getElem (show j < ys.length by omega)⟩
              obtain ⟨u, hu, ru⟩ := rv.get hx
              obtain ⟨v, hv, rw2⟩ := rv2.get hy
              rw [c2] at hu
              rw [c3] at hv
              cases hu
              cases hv
              refine .cons ?_ (.cons ?_ .nil)
              · simpa [List.getD_eq_getElem?_getD, hx] using ru
              · simpa [List.getD_eq_getElem?_getD, hy] using rw2
        · have hj : j < xs.length := (List.getElem?_eq_some_iff.mp hx).1
          refine ⟨T j, by simp [ts, hj], I1.hok.fresh (Nat.le_trans (Nat.le_add_right _ 6) (ge j hj)), ?_⟩
          show (if T j = s1.heap.objs.size + 5 then some (.lst ts) else match pairsH xs.length T xs ys (T j) with
            | some u => some u
            | none => H1 (T j)) = _
          rw [if_neg (Nat.ne_of_gt (Nat.lt_of_lt_of_le (Nat.lt_succ_self _) (ge j hj))), pairsH_at inj hj]
          simp [List.getD_eq_getElem?_getD, hx, hy]
end Sz
/-! enumerate(zip(a, b)), both lists empty; suites that are never run -/
namespace Sz
open PySem PySem.Spec PyProof.Rows L2
section
variable {prog : Program} {w : World} {A : Around} {E : Value → Shared → Prop} {s : Shared}
/-- the iterator of an iterator is itself -/
theorem call_enumZ {z TI TO : Addr} {Q : Value → Shared → Prop} (hz : IsZip s.heap z TI TO .none)
    (k : ∀ h', IsEnum h' s.heap.objs.size z 0 .none → (∀ b u, s.heap.get? b = some u → h'.get? b = some u) → Q (.ref s.heap.objs.size) { s with heap := h' }) :
    wpAny (model prog w) A (call (.type "enumerate") [.ref z]) Q E s := by
  have key : Meets (Builtin.«enumerate.__new__» ⟨[.type "enumerate", .ref z], []⟩) (fun _ R s => (∃ TI TO, IsZip s.heap z TI TO .none) ∧ R (.ok (.ret (.ref s.heap.objs.size)))
    { s with heap := s.heap.push { cls := .type "enumerate", data := .fields #[.none, .bool false, .ref z, rawInt 0, .none, .none] } }) := .of_wp fun prog w A R s h => by
    obtain ⟨hp, g, d, tk, os⟩ := s
    obtain ⟨⟨TI, TO, hz⟩, h⟩ := h
    have hsub := sub_enumerate
    have it1 : ∀ {A' : Around} {Ex : Value → Shared → Prop} {Q : Value → Shared → Prop}, Q (.ref z) ⟨hp, g, d, tk, os⟩ → wpAny (model prog w) A' (pyIter (.ref z)) Q Ex ⟨hp, g, d, tk, os⟩ := fun q => wpAny_pyIter_zip hz q
    wp_walk using it1
    refine wpAny_stack_any (fun st => wpAny_pure ?_)
    split
    · rename_i c _ _ _ _ _
      cases (c == Value.type "enumerate") <;> (wp_walk using it1; exact ⟨_, rfl, h⟩)
    · wp_walk using it1
      exact ⟨_, rfl, h⟩
  refine callType_new F.called_enumerate (by decide) (F.typeCall_enumerate_1 _) (F.newCall_enumerate_1 _) (fun obj => F.args_object_init_2 obj _) F.entry_enumerate_new key ⟨⟨TI, TO, hz⟩, ?_⟩
  have e := Heap.get?_push_size s.heap (o := { cls := .type "enumerate", data := .fields #[.none, .bool false, .ref z, rawInt 0, .none, .none] }) rfl
  exact ⟨⟨_, e, rfl⟩, k _ e fun b u x => Heap.get?_push_of_some _ x⟩
/-- the enumeration of an empty zip is over -/
theorem enumZ_done {e z TI TO i1 i2 : Addr} {fp1 fp2 : List Addr} {P1 P2 : Nat → Value → Prop} {St1 St2 : Nat → Heap → Prop} {old a1 a2 : Value} {Q : Option Value → Shared → Prop} (S : ZipSep2 z TI TO i1 i2 fp1 fp2) (D1 : ∀ A : Around, A.handled = none → Draws prog w A i1 fp1 0 P1 St1) (D2 : ∀ A : Around, A.handled = none → Draws prog w A i2 fp2 0 P2 St2) (hh : A.handled = none)
    (he : IsEnum s.heap e z 0 old) (hz : IsZip s.heap z TI TO .none) (hTI : IsTupOf2 s.heap TI (.ref i1) (.ref i2)) (hTO : IsTupOf2 s.heap TO a1 a2) (st1 : St1 0 s.heap) (st2 : St2 0 s.heap)
    (k : ∀ h' tk, (∀ c o, c ≠ z → c ≠ TO → c ≠ i1 → c ≠ i2 → s.heap.get? c = some o → h'.get? c = some o) → Q none { s with heap := h', toks := tk }) : wpAny (model prog w) A (pyNext (.ref e)) Q E s := by
  unfold pyNext
  refine wpAny_bind (wpAny_attempt (wpAny_callSpecial?_slot (name := Str.ofString "__next__") ⟨_, he, rfl⟩ F.slot_enumerate_next (wpAny_call_entry F.slot_enumerate_next ⟨_, he, rfl⟩ F.entry_enumerate_next ?_ (F.args_enumerate_next_1 _))))
  show wpAny _ _ (field (.ref e) 2 >>= _) _ _ s
  refine wpAny_bind (wpAny_field he rfl (x := .ref z) rfl (wpAny_bind ?_))
  have hT : s.TypeIs (.ref z) "zip" := ⟨_, hz, rfl⟩
  unfold Builtin.SmallTypes.nextOf
  refine wpAny_bind (wpAny_callSpecial?_slot (name := Str.ofString "__next__") hT F.slot_zip_next
    (wpAny_call_entry F.slot_zip_next hT F.entry_zip_next (zipD2_next_end S (D1 _ hh) (D2 _ hh) hz hTI hTO st1 st2 (Nat.le_refl _) (Nat.le_refl _) (.inl rfl) fun h' tk x hk ⟨o, ho, hc⟩ => ?_) (F.args_zip_next_1 _)))
  exact wpAny_bind (wpAny_isInstance (T := "StopIteration") (b := true) ⟨o, ho, hc⟩ isSubtype_stop (wpAny_pure (k _ _ hk)))
end
/-- nothing comes -/
def ItNo (K : PySem.W.Frag) (a b : Addr) : It where
  go := fun _ _ => False
  yld := fun _ _ _ _ => False
  stop := fun _ H => SqL K H a [] ∧ SqL K H b []
theorem turn_enumZ {P : Program} {w : World} {K : PySem.W.Frag} {tg : Expr} {a b N : Addr} (la : a < N) (lb : b < N) :
    Turn P w K tg (ItNo K a b) [N + 5, N + 4, N + 2, N + 3, N, N + 1] (N + 5) (fun _ h => (∃ old, IsEnum h (N + 5) (N + 4) 0 old) ∧ IsZip h (N + 4) (N + 2) (N + 3) .none ∧ IsTupOf2 h (N + 2) (.ref N) (.ref (N + 1)) ∧ (∃ x y, IsTupOf2 h (N + 3) x y) ∧ h.IsListIter N a 0 ∧ h.IsListIter (N + 1) b 0) where
  mem := List.mem_cons_self ..
  obj := fun i h ⟨⟨old, he⟩, hz, hTI, ⟨x, y, hTO⟩, ⟨o1, g1, _, d1⟩, ⟨o2, g2, _, d2⟩⟩ c hc => by
    have hc' : c = N + 5 ∨ c = N + 4 ∨ c = N + 2 ∨ c = N + 3 ∨ c = N ∨ c = N + 1 := by simpa using hc
    rcases hc' with z | z | z | z | z | z <;> subst z
    · exact ⟨_, he, fun v q => nomatch q⟩
    · exact ⟨_, hz, fun v q => nomatch q⟩
    · exact ⟨_, hTI, fun v q => nomatch q⟩
    · exact ⟨_, hTO, fun v q => nomatch q⟩
    · exact ⟨o1, g1, fun v q => by rw [d1] at q; cases q⟩
    · exact ⟨o2, g2, fun v q => by rw [d2] at q; cases q⟩
  keep := fun i h h' ⟨⟨old, he⟩, hz, hTI, ⟨x, y, hTO⟩, l1, l2⟩ k => ⟨⟨old, k _ (by simp) _ he⟩, k _ (by simp) _ hz, k _ (by simp) _ hTI, ⟨x, y, k _ (by simp) _ hTO⟩, l1.at fun o q => k _ (by simp) o q, l2.at fun o q => k _ (by simp) o q⟩
  item := fun X _ _ _ _ i pins s σ H E _ _ _ hg => hg.elim
  done := by
    intro X hP hw hK hc i pins s σ H E I hf ⟨⟨old, he⟩, hz, hTI, ⟨x, y, hTO⟩, l1, l2⟩ ⟨ha, hb⟩
    subst hP hw hK
    obtain ⟨its, rv, p1, _⟩ := I.list ha
    obtain ⟨its2, rv2, p2, _⟩ := I.list hb
    cases rv
    cases rv2
    refine enumZ_done (fp1 := [N, a]) (fp2 := [N + 1, b]) (P1 := fun i v => (#[] : Array Value)[i]? = some v) (P2 := fun i v => (#[] : Array Value)[i]? = some v) (St1 := fun i h => h.IsListIter N a i ∧ h.IsList a #[]) (St2 := fun i h => h.IsListIter (N + 1) b i ∧ h.IsList b #[])
      (zip_sep2 (N := N) (fp1 := [a]) (fp2 := [b]) (by simpa using la) (by simpa using lb)) (fun A hA => Draws.list hA _ a (Nat.ne_of_lt la) #[]) (fun A hA => Draws.list hA _ b (Nat.ne_of_lt (Nat.lt_succ_of_lt lb)) #[]) (I.ok.hd hc) he hz hTI hTO ⟨l1, p1.isList⟩ ⟨l2, p2.isList⟩ fun h' tk hk => ⟨rfl, ?_⟩
    exact I.turnedL (t' := tk) (ch := [N + 5, N + 4, N + 2, N + 3, N, N + 1]) (fun c o hb q => hk c o (fun q' => hb (by simp [q'])) (fun q' => hb (by simp [q'])) (fun q' => hb (by simp [q'])) (fun q' => hb (by simp [q'])) q) hf
  self := fun A i s Q E ⟨⟨_, he⟩, _⟩ h => wpAny_pyIter_enum he h
def iEnumZ (K : PySem.W.Frag) (ta : TA) : TI := fun σ H R => ta σ H fun vs H1 => ∃ a b, vs = [.ref a, .ref b] ∧ SqL K H1 a [] ∧ SqL K H1 b [] ∧ R (ItNo K a b) H1
theorem pi_enumZ {X : Cx} {tg e e2 : Expr} {ta : TA} {p p2 pos pos2 : Pos} (hge : Gl X "enumerate") (hme : X.mg "enumerate" = none) (hg : Gl X "zip") (hm : X.mg "zip" = none) (ha : PA X [e, e2] ta)
    (hs : starEach [e, e2] X.env = (false, eval e X.env) :: starEach [e2] X.env := by rfl) (hpl : (backTo pos2 (starEach [e2] X.env)).any (·.1) = false := by rfl)
    (na : starEach [.Call (.Name "zip" p2) [e, e2] [] pos2] X.env = (false, eval (.Call (.Name "zip" p2) [e, e2] [] pos2) X.env) :: starEach [] X.env := by rfl) :
    PI X tg (.Call (.Name "enumerate" p) [.Call (.Name "zip" p2) [e, e2] [] pos2] [] pos) (iEnumZ X.K ta) := by
  refine ⟨fun pins s σ H R I h => ?_⟩
  refine Call_ (ld_blt I hge hme boot_enumerate (PyProof.Rows.callWith_type1 (args_cons ?_ na) na))
  refine Call_ (ld_blt I hg hm PyProof.Rows.boot_zip (PyProof.Rows.callWith_type1 (thn (ha.run pos2 pins s σ H _ I h) fun us s1 ⟨vs, H1, I1, r1, q1⟩ => ?_) hs hpl))
  obtain ⟨a, b, ex, hqx, hqy, q⟩ := q1
  subst ex
  cases r1 with
  | cons r rr =>
    cases rr with
    | cons r' rr =>
      cases rr
      cases r
      cases r'
      obtain ⟨its, rv, p1, zs⟩ := I1.list hqx
      obtain ⟨its2, rv2, p2', _⟩ := I1.list hqy
      have la : a < s1.heap.objs.size := p1.lt
      have lb : b < s1.heap.objs.size := p2'.lt
      refine zip_begins2 (begins_list a its.toArray) (begins_list b its2.toArray) p1.isList p2'.isList fun h1 hz hTI hTO g1 g2 hsz hk => args_nil ?_
      refine call_enumZ (s := { s1 with heap := h1 }) hz fun h2 he hk2 => ?_
      rw [show ({ s1 with heap := h1 } : Shared).heap.objs.size = s1.heap.objs.size + 5 from hsz] at he ⊢
      refine wpAny_pyIter_enum he ?_
      have up := fun b u x => hk2 b u (hk b u x)
      refine ⟨s1.heap.objs.size + 5, _, _, _, H1, rfl, I1.kept (t' := s1.toks) up, turn_enumZ la lb, ⟨⟨_, he⟩, hk2 _ _ hz, hk2 _ _ hTI, ⟨_, _, hk2 _ _ hTO⟩, ⟨_, hk2 _ _ g1, rfl, rfl⟩, ⟨_, hk2 _ _ g2, rfl, rfl⟩⟩, fun c hcm => ?_, q⟩
      have hle : s1.heap.objs.size ≤ c := by
        have hc' : c = s1.heap.objs.size + 5 ∨ c = s1.heap.objs.size + 4 ∨ c = s1.heap.objs.size + 2 ∨ c = s1.heap.objs.size + 3 ∨ c = s1.heap.objs.size ∨ c = s1.heap.objs.size + 1 := by simpa using hcm
        rcases hc' with z | z | z | z | z | z <;> rw [z]
        · exact Nat.le_add_right _ _
        · exact Nat.le_add_right _ _
        · exact Nat.le_add_right _ _
        · exact Nat.le_add_right _ _
        · exact Nat.le_refl _
        · exact Nat.le_add_right _ _
      exact I1.fpOk hle (I1.hok.fresh hle)
/-- a suite, a target that are never come to -/
theorem pss_no {X : Cx} {l : List Stmt} : PSs X l (fun _ _ _ => False) := ⟨fun _ _ _ _ _ _ h => h.elim⟩
theorem pg_no {X : Cx} {tg : Expr} : PG X tg (fun _ _ _ _ => False) := ⟨fun _ _ _ _ _ _ _ _ _ h => h.elim⟩
end Sz
/-! enumerate(zip(a, b)) over two lists of one length: the pair stands in the enumeration's own pair, so zip keeps it or makes it anew -/
namespace PySem
open Sem (wp)
/-- a zip, by the pair that it handed out last -/
abbrev IsZipG (h : Heap) (z TI TO : Addr) (v : Value) (b : Bool) : Prop :=
  h.get? z = some { cls := .type "zip", dict := none, data := .fields #[v, .bool b, .bool false, .ref TI, .ref TO], slots := #[] }
/-- that pair is let go -/
def GoneZ (h : Heap) (v : Value) : Prop := v = .none ∨ ∃ T0 : Addr, v = rawInt T0 ∧ h.get? T0 = none
section
variable {prog : Program} {w : World} {A : Around} {E : Value → Shared → Prop} {s : Shared} {z TI TO i1 i2 : Addr} {fp1 fp2 : List Addr} {n1 n2 i : Nat} {P1 P2 : Nat → Value → Prop} {St1 St2 : Nat → Heap → Prop} {y1 y2 v : Value} {b : Bool}
theorem gone_free {Q : Bool → Shared → Prop} (hz : IsZipG s.heap z TI TO v b) (gn : GoneZ s.heap v) (q : Q true s) : wpAny (model prog w) A (Builtin.SmallTypes.ownedTupleIsFree (.ref z)) Q E s := by
  unfold Builtin.SmallTypes.ownedTupleIsFree
  refine wpAny_bind (wpAny_field hz rfl (x := v) rfl ?_)
  rcases gn with rfl | ⟨T0, rfl, gn⟩
  · exact wpAny_pure q
  · show wpAny _ _ (loadIfAlive ((T0 : Int).toNat) >>= _) _ _ s
    refine wpAny_bind (wpAny_alive ?_)
    rw [Int.toNat_natCast, gn]
    simp only [Option.isNone_none, if_true]
    exact wpAny_pure q
/-- a turn, the pair let go: the same tuple is filled again -/
theorem zipG_item {Q : Value → Shared → Prop} (S : ZipSep2 z TI TO i1 i2 fp1 fp2) (D1 : Draws prog w A i1 fp1 n1 P1 St1) (D2 : Draws prog w A i2 fp2 n2 P2 St2)
    (hz : IsZipG s.heap z TI TO v b) (gn : GoneZ s.heap v) (hI : IsTupOf2 s.heap TI (.ref i1) (.ref i2)) (hO : IsTupOf2 s.heap TO y1 y2) (st1 : St1 i s.heap) (st2 : St2 i s.heap) (lt1 : i < n1) (lt2 : i < n2)
    (k : ∀ x1 x2 h' tk, P1 i x1 → P2 i x2 → IsZipG h' z TI TO (rawInt s.heap.objs.size) false → IsTupOf2 h' TO x1 x2 → St1 (i + 1) h' → St2 (i + 1) h' → IsTupOf2 h' s.heap.objs.size x1 x2 → h'.objs.size = s.heap.objs.size + 1 →
      (∀ c o, c ≠ z → c ≠ TO → c ≠ i1 → c ≠ i2 → s.heap.get? c = some o → h'.get? c = some o) → Q (.ref s.heap.objs.size) { s with heap := h', toks := tk }) :
    wpAny (model prog w) A (Builtin.«zip.__next__» ⟨[.ref z], []⟩) (fun fin s' => ∃ u, fin = .done (.ret u) ∧ Q u s') E s := by
  obtain ⟨hp, g, d, t0, os⟩ := s
  show wpAny _ _ (field (.ref z) 2 >>= _) _ _ _
  refine wpAny_bind (wpAny_field hz rfl (x := .bool false) rfl ?_)
  show wpAny _ _ (field (.ref z) 3 >>= _) _ _ _
  refine wpAny_bind (wpAny_field hz rfl (x := .ref TI) rfl (wpAny_bind (wpAny_seqItems hI rfl ?_)))
  show wpAny _ _ (Builtin.SmallTypes.ownedTupleIsFree (.ref z) >>= _) _ _ _
  refine wpAny_bind (gone_free hz gn ?_)
  simp only [if_true]
  refine wpAny_bind (wpAny_rule (wpAny_bind (wpAny_field hz rfl (x := .ref TO) rfl ?_)))
  refine wpAny_bind (wpAny_setField_rec hz (by simp) fun q0 z0 e0 => ?_)
  have z0 : IsZipG q0 z TI TO .ellipsis b := z0
  have e0 : Heap.SameBut z hp q0 := e0
  refine wpAny_bind ?_
  simp only [List.zipIdx_cons, List.zipIdx_nil, List.forIn_cons, List.forIn_nil]
  refine wpAny_bind (wpAny_bind (wpAny_onRaise ?_))
  show wpAny _ _ (Builtin.SmallTypes.nextOf (.ref i1) >>= _) _ _ ⟨q0, g, d, t0, os⟩
  refine wpAny_bind (D1.item i _ _ _ lt1 (D1.over st1 e0 S.zf1) fun x1 q1 t1 hx1 n1' e1 => wpAny_pure ?_)
  have e1 : Heap.SameBut i1 q0 q1 := e1
  have u1 : IsTupOf2 q1 TO y1 y2 := e1.extBut _ _ S.Ti1 (e0.extBut _ _ S.TOz hO)
  refine wpAny_bind (wpAny_seqItems (s := ⟨q1, g, d, t1, os⟩) u1 rfl (wpAny_bind (updateSeq_IsTupOf2 (s := ⟨q1, g, d, t1, os⟩) u1 fun q2 f1 e2 => ?_)))
  have f1 : IsTupOf2 q2 TO x1 y2 := f1
  have e2 : Heap.SameBut TO q1 q2 := e2
  refine wpAny_bind (wpAny_letGo (wpAny_pure (wpAny_bind (wpAny_bind (wpAny_onRaise ?_)))))
  show wpAny _ _ (Builtin.SmallTypes.nextOf (.ref i2) >>= _) _ _ ⟨q2, g, d, t1, os⟩
  refine wpAny_bind (D2.item i _ _ _ lt2 (D2.over (D2.over (D2.over st2 e0 S.zf2) e1 S.sep1_2) e2 S.Tf2) fun x2 q3 t2 hx2 n2' e3 => wpAny_pure ?_)
  have e3 : Heap.SameBut i2 q2 q3 := e3
  have u2 : IsTupOf2 q3 TO x1 y2 := e3.extBut _ _ S.Ti2 f1
  refine wpAny_bind (wpAny_seqItems (s := ⟨q3, g, d, t2, os⟩) u2 rfl (wpAny_bind (updateSeq_IsTupOf2 (s := ⟨q3, g, d, t2, os⟩) u2 fun q4 f2 e4 => ?_)))
  have f2 : IsTupOf2 q4 TO x1 x2 := f2
  have e4 : Heap.SameBut TO q3 q4 := e4
  refine wpAny_bind (wpAny_letGo (wpAny_pure (wpAny_pure (wpAny_bind (wpAny_seqItems (s := ⟨q4, g, d, t2, os⟩) f2 rfl (wpAny_bind (wpAny_newTuple ?_)))))))
  have sz : q4.objs.size = hp.objs.size := by rw [e4.1, e3.1, e2.1, e1.1, e0.1]
  have z4 : IsZipG q4 z TI TO .ellipsis b := e4.extBut _ _ S.TOz.symm (e3.extBut _ _ S.zi2 (e2.extBut _ _ S.TOz.symm (e1.extBut _ _ S.zi1 z0)))
  have up4 : ∀ c o, c ≠ z → c ≠ TO → c ≠ i1 → c ≠ i2 → hp.get? c = some o → q4.get? c = some o := fun c o c1 c2 c3 c4 e =>
    e4.extBut _ _ c2 (e3.extBut _ _ c4 (e2.extBut _ _ c2 (e1.extBut _ _ c3 (e0.extBut _ _ c1 e))))
  have j1 : St1 (i + 1) q4 := D1.over (D1.over (D1.over n1' e2 S.Tf1) e3 S.sep2_1) e4 S.Tf1
  have j2 : St2 (i + 1) q4 := D2.over n2' e4 S.Tf2
  have zl : z < q4.objs.size := Heap.lt_size z4
  show wpAny _ _ (Builtin.SmallTypes.ownedTupleHandOut (.ref z) (.ref q4.objs.size) >>= _) _ _ ⟨q4.push { cls := .type "tuple", data := .seq #[x1, x2] }, g, d, t2, os⟩
  refine wpAny_bind ?_
  unfold Builtin.SmallTypes.ownedTupleHandOut
  have z5 : IsZipG (q4.push { cls := .type "tuple", data := .seq #[x1, x2] }) z TI TO .ellipsis b := Heap.get?_push_of_some _ z4
  refine wpAny_bind (wpAny_setField_rec z5 (by simp) fun q6 z6 e6 => ?_)
  have z6 : IsZipG q6 z TI TO (rawInt q4.objs.size) b := z6
  refine wpAny_setField_rec z6 (by simp) fun q7 z7 e7 => ?_
  have z7 : IsZipG q7 z TI TO (rawInt q4.objs.size) false := z7
  have e6 : Heap.SameBut z (q4.push { cls := .type "tuple", data := .seq #[x1, x2] }) q6 := e6
  have e7 : Heap.SameBut z q6 q7 := e7
  have up : ∀ c o, c ≠ z → q4.get? c = some o → q7.get? c = some o := fun c o c1 e => e7.extBut _ _ c1 (e6.extBut _ _ c1 (Heap.get?_push_of_some _ e))
  have t7 : IsTupOf2 q7 q4.objs.size x1 x2 := e7.extBut _ _ (Nat.ne_of_gt zl) (e6.extBut _ _ (Nat.ne_of_gt zl) (Heap.get?_push_size _ rfl))
  have s7 : q7.objs.size = q4.objs.size + 1 := by rw [e7.1, e6.1, Heap.size_push]
  rw [sz] at z7 t7 s7
  refine wpAny_pure ⟨_, rfl, ?_⟩
  show Q (.ref q4.objs.size) ⟨q7, g, d, t2, os⟩
  rw [sz]
  exact k x1 x2 q7 t2 hx1 hx2 z7 (up _ _ S.TOz f2) (D1.frame _ _ _ j1 fun b hb o e => up b o (fun q => S.zf1 (q ▸ hb)) e) (D2.frame _ _ _ j2 fun b hb o e => up b o (fun q => S.zf2 (q ▸ hb)) e) t7 s7 fun c o c1 c2 c3 c4 e => up c o c1 (up4 c o c1 c2 c3 c4 e)
/-- no turn more, the pair let go -/
theorem zipG_end {Q : Fin → Shared → Prop} (S : ZipSep2 z TI TO i1 i2 fp1 fp2) (D1 : Draws prog w A i1 fp1 n1 P1 St1) (hz : IsZipG s.heap z TI TO v b) (gn : GoneZ s.heap v) (hI : IsTupOf2 s.heap TI (.ref i1) (.ref i2)) (st1 : St1 n1 s.heap)
    (k : ∀ h' tk e, (∀ c o, c ≠ z → c ≠ i1 → s.heap.get? c = some o → h'.get? c = some o) → (∃ o, h'.get? e = some o ∧ o.cls = .type "StopIteration") → E (.ref e) { s with heap := h', toks := tk }) :
    wpAny (model prog w) A (Builtin.«zip.__next__» ⟨[.ref z], []⟩) Q E s := by
  obtain ⟨hp, g, d, t0, os⟩ := s
  show wpAny _ _ (field (.ref z) 2 >>= _) _ _ _
  refine wpAny_bind (wpAny_field hz rfl (x := .bool false) rfl ?_)
  show wpAny _ _ (field (.ref z) 3 >>= _) _ _ _
  refine wpAny_bind (wpAny_field hz rfl (x := .ref TI) rfl (wpAny_bind (wpAny_seqItems hI rfl ?_)))
  show wpAny _ _ (Builtin.SmallTypes.ownedTupleIsFree (.ref z) >>= _) _ _ _
  refine wpAny_bind (gone_free hz gn ?_)
  simp only [if_true]
  refine wpAny_bind (wpAny_rule (wpAny_bind (wpAny_field hz rfl (x := .ref TO) rfl ?_)))
  refine wpAny_bind (wpAny_setField_rec hz (by simp) fun q0 z0 e0 => ?_)
  have z0 : IsZipG q0 z TI TO .ellipsis b := z0
  have e0 : Heap.SameBut z hp q0 := e0
  refine wpAny_bind ?_
  simp only [List.zipIdx_cons, List.zipIdx_nil, List.forIn_cons, List.forIn_nil]
  refine wpAny_bind (wpAny_bind (wpAny_onRaise ?_))
  show wpAny _ _ (Builtin.SmallTypes.nextOf (.ref i1) >>= _) _ _ ⟨q0, g, d, t0, os⟩
  refine wpAny_bind (D1.done ⟨q0, g, d, t0, os⟩ _ _ (D1.over st1 e0 S.zf1) fun q1 e e1 he => ?_)
  have e1 : Heap.ExtBut i1 q0 q1 := e1
  obtain ⟨oe, hoe, hce⟩ := he
  have hoe : q1.get? e = some oe := hoe
  have z1 : IsZipG q1 z TI TO .ellipsis b := e1 _ _ S.zi1 z0
  have ez : e ≠ z := fun x => by
    subst x
    rw [z1] at hoe
    cases hoe
    simp at hce
  refine wpAny_setField_rec (s := ⟨q1, g, d, t0, os⟩) z1 (by simp) fun q2 _ e2 => ?_
  have e2 : Heap.SameBut z q1 q2 := e2
  exact k q2 t0 e (fun c o c1 c2 x => e2.extBut _ _ c1 (e1 _ _ c2 (e0.extBut _ _ c1 x))) ⟨oe, e2.extBut _ _ ez hoe, hce⟩
/-- next of a zip, its last pair let go or not -/
theorem zipG_nextOf {Q : Value → Shared → Prop} (S : ZipSep2 z TI TO i1 i2 fp1 fp2) (D1 : ∀ A : Around, A.handled = none → Draws prog w A i1 fp1 n1 P1 St1) (D2 : ∀ A : Around, A.handled = none → Draws prog w A i2 fp2 n2 P2 St2) (hh : A.handled = none)
    (hz : IsZipG s.heap z TI TO v b) (hv : v = .none ∨ ∃ T0 : Addr, v = rawInt T0) (hI : IsTupOf2 s.heap TI (.ref i1) (.ref i2)) (hO : IsTupOf2 s.heap TO y1 y2) (st1 : St1 i s.heap) (st2 : St2 i s.heap) (lt1 : i < n1) (lt2 : i < n2)
    (k : ∀ x1 x2 T0 b' u1 u2 h' tk, P1 i x1 → P2 i x2 → IsZipG h' z TI TO (rawInt (T0 : Addr)) b' → IsTupOf2 h' TO u1 u2 → St1 (i + 1) h' → St2 (i + 1) h' → IsTupOf2 h' s.heap.objs.size x1 x2 → h'.objs.size = s.heap.objs.size + 1 →
      (∀ c o, c ≠ z → c ≠ TO → c ≠ i1 → c ≠ i2 → s.heap.get? c = some o → h'.get? c = some o) → Q (.ref s.heap.objs.size) { s with heap := h', toks := tk }) :
    wpAny (model prog w) A (Builtin.SmallTypes.nextOf (.ref z)) Q E s := by
  have hT : s.TypeIs (.ref z) "zip" := ⟨_, hz, rfl⟩
  have key : GoneZ s.heap v ∨ ∃ (T0 : Addr) (o0 : Obj), v = rawInt T0 ∧ s.heap.get? T0 = some o0 := by
    rcases hv with rfl | ⟨T0, rfl⟩
    · exact .inl (.inl rfl)
    · cases e : s.heap.get? T0 with
      | none => exact .inl (.inr ⟨T0, rfl, e⟩)
      | some o => exact .inr ⟨T0, o, rfl, e⟩
  unfold Builtin.SmallTypes.nextOf
  rcases key with gn | ⟨T0, o0, rfl, h0⟩
  · refine wpAny_bind (wpAny_callSpecial?_slot (name := Str.ofString "__next__") hT F.slot_zip_next (wpAny_call_entry F.slot_zip_next hT F.entry_zip_next
      (zipG_item S (D1 _ hh) (D2 _ hh) hz gn hI hO st1 st2 lt1 lt2 fun x1 x2 h' tk p1 p2 a1 a2 a3 a4 a5 a6 a7 => ?_) (F.args_zip_next_1 _)))
    exact wpAny_pure (k x1 x2 _ _ _ _ h' tk p1 p2 a1 a2 a3 a4 a5 a6 a7)
  · refine wpAny_bind (wpAny_callSpecial?_slot (name := Str.ofString "__next__") hT F.slot_zip_next (wpAny_call_entry F.slot_zip_next hT F.entry_zip_next
      (zipK_item S (D1 _ hh) (D2 _ hh) hz h0 hI st1 st2 lt1 lt2 fun x1 x2 h' tk p1 p2 a1 a3 a4 a5 a6 a7 => ?_) (F.args_zip_next_1 _)))
    exact wpAny_pure (k x1 x2 _ _ _ _ h' tk p1 p2 a1 (a7 _ _ S.TOz S.Ti1 S.Ti2 hO) a3 a4 a5 a6 fun c o c1 _ c3 c4 e => a7 c o c1 c3 c4 e)
/-- end of a zip, its last pair let go or not -/
theorem zipG_nextEnd {Q : Value → Shared → Prop} (S : ZipSep2 z TI TO i1 i2 fp1 fp2) (D1 : ∀ A : Around, A.handled = none → Draws prog w A i1 fp1 n1 P1 St1) (D2 : ∀ A : Around, A.handled = none → Draws prog w A i2 fp2 n2 P2 St2) (hh : A.handled = none)
    (hz : IsZipG s.heap z TI TO v b) (hv : v = .none ∨ ∃ T0 : Addr, v = rawInt T0) (hI : IsTupOf2 s.heap TI (.ref i1) (.ref i2)) (st1 : St1 n1 s.heap)
    (k : ∀ h' tk e, (∀ c o, c ≠ z → c ≠ i1 → c ≠ i2 → s.heap.get? c = some o → h'.get? c = some o) → (∃ o, h'.get? e = some o ∧ o.cls = .type "StopIteration") → E (.ref e) { s with heap := h', toks := tk }) :
    wpAny (model prog w) A (Builtin.SmallTypes.nextOf (.ref z)) Q E s := by
  have hT : s.TypeIs (.ref z) "zip" := ⟨_, hz, rfl⟩
  have key : GoneZ s.heap v ∨ ∃ (T0 : Addr) (o0 : Obj), v = rawInt T0 ∧ s.heap.get? T0 = some o0 := by
    rcases hv with rfl | ⟨T0, rfl⟩
    · exact .inl (.inl rfl)
    · cases e : s.heap.get? T0 with
      | none => exact .inl (.inr ⟨T0, rfl, e⟩)
      | some o => exact .inr ⟨T0, o, rfl, e⟩
  unfold Builtin.SmallTypes.nextOf
  rcases key with gn | ⟨T0, o0, rfl, h0⟩
  · exact wpAny_bind (wpAny_callSpecial?_slot (name := Str.ofString "__next__") hT F.slot_zip_next (wpAny_call_entry F.slot_zip_next hT F.entry_zip_next
      (zipG_end S (D1 _ hh) hz gn hI st1 fun h' tk e a b => k h' tk e (fun c o c1 c2 _ x => a c o c1 c2 x) b) (F.args_zip_next_1 _)))
  · exact wpAny_bind (wpAny_callSpecial?_slot (name := Str.ofString "__next__") hT F.slot_zip_next (wpAny_call_entry F.slot_zip_next hT F.entry_zip_next
      (zipK_end S (D1 _ hh) (D2 _ hh) hz h0 hI st1 fun h' tk e a b => k h' tk e a b) (F.args_zip_next_1 _)))
/-- a turn of an enumeration over anything -/
theorem enumG_item {e : Addr} {old : Value} {R : Value → Heap → Nat → Prop} {Q : Option Value → Shared → Prop} (he : IsEnum s.heap e z i old)
    (step : ∀ (Q' : Value → Shared → Prop) (E' : Value → Shared → Prop), (∀ x h1 tk, R x h1 tk → Q' x { s with heap := h1, toks := tk }) → wpAny (model prog w) A.in1 (Builtin.SmallTypes.nextOf (.ref z)) Q' E' s)
    (kp : ∀ x h1 tk, R x h1 tk → IsEnum h1 e z i old)
    (k : ∀ x h1 t0 h', R x h1 t0 → IsEnumOut h' e z ((i : Int) + 1) x h1.objs.size → h'.get? h1.objs.size = some { cls := .type "tuple", data := .seq #[.int i t0, x] } → h'.objs.size = h1.objs.size + 1 →
      (∀ c o, c ≠ e → h1.get? c = some o → h'.get? c = some o) → Q (some (.ref h1.objs.size)) { s with heap := h', toks := t0 + 1 }) : wpAny (model prog w) A (pyNext (.ref e)) Q E s := by
  have hT : s.TypeIs (.ref e) "enumerate" := ⟨_, he, rfl⟩
  unfold pyNext
  refine wpAny_bind (wpAny_attempt (wpAny_callSpecial?_slot (name := Str.ofString "__next__") hT F.slot_enumerate_next (wpAny_call_entry F.slot_enumerate_next hT F.entry_enumerate_next ?_ (F.args_enumerate_next_1 _))))
  obtain ⟨hp, g, d, tk, os⟩ := s
  show wpAny _ _ (field (.ref e) 2 >>= _) _ _ _
  refine wpAny_bind (wpAny_field he rfl (x := .ref z) rfl (wpAny_bind (step _ _ fun x q1 t0 r => ?_)))
  have g1 : IsEnum q1 e z i old := kp x q1 t0 r
  show wpAny _ _ (field (.ref e) 3 >>= _) _ _ ⟨q1, g, d, t0, os⟩
  refine wpAny_bind (wpAny_field g1 rfl (x := rawInt i) rfl ?_)
  show wpAny _ _ (field (.ref e) 4 >>= _) _ _ ⟨q1, g, d, t0, os⟩
  refine wpAny_bind (wpAny_field g1 rfl (x := .none) rfl ?_)
  show wpAny _ _ (mkInt i >>= _) _ _ ⟨q1, g, d, t0, os⟩
  refine wpAny_bind (wpAny_mkInt ?_)
  show wpAny _ _ (setField (.ref e) 3 (rawInt ((i : Int) + 1)) >>= _) _ _ ⟨q1, g, d, t0 + 1, os⟩
  refine wpAny_bind (wpAny_setField_rec g1 (by simp) fun q2 g2 e2 => ?_)
  have e2 : Heap.SameBut e q1 q2 := e2
  have g2 : IsEnum q2 e z ((i : Int) + 1) old := g2
  show wpAny _ _ (setField (.ref e) 4 .none >>= _) _ _ ⟨q2, g, d, t0 + 1, os⟩
  refine wpAny_bind (wpAny_setField_rec g2 (by simp) fun q3 g3 e3 => ?_)
  have e3 : Heap.SameBut e q2 q3 := e3
  have g3 : IsEnum q3 e z ((i : Int) + 1) old := g3
  show wpAny _ _ (newTuple [.int i t0, x] >>= _) _ _ ⟨q3, g, d, t0 + 1, os⟩
  refine wpAny_bind (wpAny_newTuple ?_)
  have sz : q3.objs.size = q1.objs.size := by rw [e3.1, e2.1]
  have el : e < q1.objs.size := Heap.lt_size g1
  have g4 : IsEnum (q3.push { cls := .type "tuple", data := .seq #[.int i t0, x] }) e z ((i : Int) + 1) old := Heap.get?_push_of_some _ g3
  generalize hq4 : q3.push { cls := .type "tuple", data := .seq #[.int i t0, x] } = q4 at g4
  have t4 : q4.get? q1.objs.size = some { cls := .type "tuple", data := .seq #[.int i t0, x] } := by rw [← hq4, ← sz]; exact Heap.get?_push_size _ rfl
  have s4 : q4.objs.size = q1.objs.size + 1 := by rw [← hq4, Heap.size_push, sz]
  have up4 : ∀ c o, c ≠ e → q1.get? c = some o → q4.get? c = some o := fun c o c1 x => by
    rw [← hq4]; exact Heap.get?_push_of_some _ (e3.extBut c o c1 (e2.extBut c o c1 x))
  show wpAny _ _ (Builtin.SmallTypes.ownedTupleIsFree (.ref e) >>= _) _ _ ⟨q4, g, d, t0 + 1, os⟩
  rw [sz]
  refine wpAny_bind ?_
  unfold Builtin.SmallTypes.ownedTupleIsFree
  refine wpAny_bind (wpAny_field g4 rfl (x := .none) rfl (wpAny_pure ?_))
  simp only [if_true]
  refine wpAny_bind (wpAny_rule (wpAny_bind (wpAny_field g4 rfl (x := old) rfl ?_)))
  refine wpAny_bind (wpAny_setField_rec g4 (by simp) fun q5 g5 e5 => ?_)
  have e5 : Heap.SameBut e q4 q5 := e5
  have g5 : IsEnum q5 e z ((i : Int) + 1) x := g5
  show wpAny _ _ (Builtin.SmallTypes.ownedTupleHandOut (.ref e) (.ref q1.objs.size) >>= _) _ _ ⟨q5, g, d, t0 + 1, os⟩
  refine wpAny_bind ?_
  unfold Builtin.SmallTypes.ownedTupleHandOut
  refine wpAny_bind (wpAny_setField_rec g5 (by simp) fun q6 g6 e6 => ?_)
  have e6 : Heap.SameBut e q5 q6 := e6
  have g6 : IsEnumOut q6 e z ((i : Int) + 1) x q1.objs.size := g6
  refine wpAny_setField_rec g6 (by simp) fun q7 g7 e7 => ?_
  have e7 : Heap.SameBut e q6 q7 := e7
  have g7 : IsEnumOut q7 e z ((i : Int) + 1) x q1.objs.size := g7
  have up7 : ∀ c o, c ≠ e → q4.get? c = some o → q7.get? c = some o := fun c o c1 x => e7.extBut c o c1 (e6.extBut c o c1 (e5.extBut c o c1 x))
  refine wpAny_bind (wpAny_letGo (wpAny_pure ⟨_, rfl, wpAny_pure ?_⟩))
  exact k x q1 t0 q7 r g7 (up7 _ _ (Nat.ne_of_gt el) t4) (by rw [e7.1, e6.1, e5.1, s4]) fun c o c1 x => up7 c o c1 (up4 c o c1 x)
theorem enumG_end {e : Addr} {old : Value} {c0 : Int} {R : Shared → Prop} {Q : Option Value → Shared → Prop} (he : IsEnum s.heap e z c0 old)
    (step : ∀ (Q' : Value → Shared → Prop) (E' : Value → Shared → Prop), (∀ h' tk x, (∃ o, h'.get? x = some o ∧ o.cls = .type "StopIteration") → R { s with heap := h', toks := tk } → E' (.ref x) { s with heap := h', toks := tk }) → wpAny (model prog w) A.in1 (Builtin.SmallTypes.nextOf (.ref z)) Q' E' s)
    (k : ∀ s', R s' → Q none s') : wpAny (model prog w) A (pyNext (.ref e)) Q E s := by
  have hT : s.TypeIs (.ref e) "enumerate" := ⟨_, he, rfl⟩
  unfold pyNext
  refine wpAny_bind (wpAny_attempt (wpAny_callSpecial?_slot (name := Str.ofString "__next__") hT F.slot_enumerate_next (wpAny_call_entry F.slot_enumerate_next hT F.entry_enumerate_next ?_ (F.args_enumerate_next_1 _))))
  show wpAny _ _ (field (.ref e) 2 >>= _) _ _ s
  refine wpAny_bind (wpAny_field he rfl (x := .ref z) rfl (wpAny_bind (step _ _ fun h' tk x ⟨o, ho, hc⟩ r => ?_)))
  exact wpAny_bind (wpAny_isInstance (T := "StopIteration") (b := true) ⟨o, ho, hc⟩ isSubtype_stop (wpAny_pure (k _ r)))
end
end PySem
namespace Sz
open PySem PySem.Spec PyProof.Rows L2
/-- two lists of one length, the items in new pairs, each in a new pair with its number -/
def IteZ (K : PySem.W.Frag) (a b : Addr) : It where
  go := fun i H => ∃ (xs ys : List V) (x y : V), SqL K H a xs ∧ SqL K H b ys ∧ xs[i]? = some x ∧ ys[i]? = some y
  yld := fun i H v H' => ∃ T1 T2 x y, v = .ref T2 ∧ H T1 = none ∧ H T2 = none ∧ T1 ≠ T2 ∧ H' = upd (upd H T1 (.tup [x, y])) T2 (.tup [.int (i : Nat), .ref T1]) ∧ (∀ xs, SqL K H a xs → xs[i]? = some x) ∧ ∀ ys, SqL K H b ys → ys[i]? = some y
  stop := fun i H => ∃ xs ys : List V, SqL K H a xs ∧ SqL K H b ys ∧ xs.length = i ∧ ys.length = i
theorem adN (N : Nat) : N + 5 ≠ N + 4 ∧ N + 5 ≠ N + 3 ∧ N + 5 ≠ N ∧ N + 5 ≠ N + 1 ∧ N + 2 ≠ N + 4 ∧ N + 2 ≠ N + 3 ∧ N + 2 ≠ N ∧ N + 2 ≠ N + 1 ∧ N + 4 ≠ N + 5 ∧ N + 3 ≠ N + 5 ∧ N ≠ N + 5 ∧ N + 1 ≠ N + 5 ∧ N + 2 ≠ N + 5 := by omega
theorem adL {N M c : Nat} (h : N + 5 < M) (hc : c = N + 5 ∨ c = N + 4 ∨ c = N + 2 ∨ c = N + 3 ∨ c = N ∨ c = N + 1) : c ≠ M ∧ c ≠ M + 1 ∧ N ≤ c := by omega
theorem adG {N c : Nat} (hc : c = N + 5 ∨ c = N + 4 ∨ c = N + 2 ∨ c = N + 3 ∨ c = N ∨ c = N + 1) : N ≤ c := by omega
theorem turn_enumZN {P : Program} {w : World} {K : PySem.W.Frag} {elts : List Expr} {kk : Nat} {tpos : Pos} {a b N : Addr} (la : a < N) (lb : b < N) :
    Turn P w K (.Tuple elts kk tpos) (IteZ K a b) [N + 5, N + 4, N + 2, N + 3, N, N + 1] (N + 5) (fun i h => (∃ old, IsEnum h (N + 5) (N + 4) ((i : Nat) : Int) old) ∧ (∃ v c, IsZipG h (N + 4) (N + 2) (N + 3) v c ∧ (v = .none ∨ ∃ T0 : Addr, v = rawInt T0)) ∧ IsTupOf2 h (N + 2) (.ref N) (.ref (N + 1)) ∧ (∃ x y, IsTupOf2 h (N + 3) x y) ∧ h.IsListIter N a i ∧ h.IsListIter (N + 1) b i) where
  mem := List.mem_cons_self ..
  obj := fun i h ⟨⟨old, he⟩, ⟨v, c', hz, _⟩, hTI, ⟨x, y, hTO⟩, ⟨o1, g1, _, d1⟩, ⟨o2, g2, _, d2⟩⟩ c hc => by
    have hc' : c = N + 5 ∨ c = N + 4 ∨ c = N + 2 ∨ c = N + 3 ∨ c = N ∨ c = N + 1 := by simpa using hc
    rcases hc' with z | z | z | z | z | z <;> subst z
    · exact ⟨_, he, fun v q => nomatch q⟩
    · exact ⟨_, hz, fun v q => nomatch q⟩
    · exact ⟨_, hTI, fun v q => nomatch q⟩
    · exact ⟨_, hTO, fun v q => nomatch q⟩
    · exact ⟨o1, g1, fun v q => by rw [d1] at q; cases q⟩
    · exact ⟨o2, g2, fun v q => by rw [d2] at q; cases q⟩
  keep := fun i h h' ⟨⟨old, he⟩, ⟨v, c, hz, hv⟩, hTI, ⟨x, y, hTO⟩, l1, l2⟩ k => ⟨⟨old, k _ (by simp) _ he⟩, ⟨v, c, k _ (by simp) _ hz, hv⟩, k _ (by simp) _ hTI, ⟨x, y, k _ (by simp) _ hTO⟩, l1.at fun o q => k _ (by simp) o q, l2.at fun o q => k _ (by simp) o q⟩
  item := by
    intro X hP hw hK hc i pins s σ H E I hf ⟨⟨old, he⟩, ⟨v, cc, hz, hv⟩, hTI, ⟨u1, u2, hTO⟩, l1, l2⟩ ⟨xs, ys, x, y, ha, hb, hx, hy⟩
    subst hP hw hK
    obtain ⟨its, rv, p1, _⟩ := I.list ha
    obtain ⟨its2, rv2, p2, _⟩ := I.list hb
    obtain ⟨r1, hr1, rr1⟩ := rv.get hx
    obtain ⟨r2, hr2, rr2⟩ := rv2.get hy
    have S := zip_sep2 (N := N) (fp1 := [a]) (fp2 := [b]) (by simpa using la) (by simpa using lb)
    obtain ⟨n54, n53, n50, n51, n24, n23, n20, n21, n45, n35, n05, n15, n25⟩ := adN N
    have lt : ∀ {c o}, s.heap.get? c = some o → c < s.heap.objs.size := fun e => Heap.lt_size e
    refine enumG_item (R := fun v h1 tk => ∃ x1 x2 T0 b' w1 w2, v = .ref s.heap.objs.size ∧ its.toArray[i]? = some x1 ∧ its2.toArray[i]? = some x2 ∧ IsZipG h1 (N + 4) (N + 2) (N + 3) (rawInt (T0 : Addr)) b' ∧ IsTupOf2 h1 (N + 3) w1 w2 ∧ h1.IsListIter N a (i + 1) ∧ h1.IsListIter (N + 1) b (i + 1) ∧ IsTupOf2 h1 s.heap.objs.size x1 x2 ∧ h1.objs.size = s.heap.objs.size + 1 ∧
      (∀ c o, c ≠ N + 4 → c ≠ N + 3 → c ≠ N → c ≠ N + 1 → s.heap.get? c = some o → h1.get? c = some o)) he ?_ ?_ ?_
    · intro Q' E' kk
      refine zipG_nextOf (P1 := fun i v => its.toArray[i]? = some v) (P2 := fun i v => its2.toArray[i]? = some v) (St1 := fun i h => h.IsListIter N a i ∧ h.IsList a its.toArray) (St2 := fun i h => h.IsListIter (N + 1) b i ∧ h.IsList b its2.toArray) S
        (fun A hA => Draws.list hA _ a (Nat.ne_of_lt la) its.toArray) (fun A hA => Draws.list hA _ b (Nat.ne_of_lt (Nat.lt_succ_of_lt lb)) its2.toArray) (I.ok.hd hc) hz hv hTI hTO ⟨l1, p1.isList⟩ ⟨l2, p2.isList⟩ ?_ ?_ fun x1 x2 T0 b' w1 w2 h' tk a1 a2 a3 a4 a5 a6 a7 a8 a9 => ?_
      · have := (List.getElem?_eq_some_iff.mp hr1).1
        simpa using this
      · have := (List.getElem?_eq_some_iff.mp hr2).1
        simpa using this
      · exact kk _ h' tk ⟨x1, x2, T0, b', w1, w2, rfl, a1, a2, a3, a4, a5.1, a6.1, a7, a8, a9⟩
    · rintro v h1 tk ⟨x1, x2, T0, b', w1, w2, rfl, a1, a2, a3, a4, a5, a6, a7, a8, a9⟩
      exact a9 _ _ n54 n53 n50 n51 he
    · rintro v h1 t0 h' ⟨x1, x2, T0, b', w1, w2, rfl, a1, a2, a3, a4, a5, a6, a7, a8, a9⟩ b1 b2 b3 b4
      have ex1 : x1 = r1 := by
        have : its[i]? = some x1 := by simpa using a1
        rw [hr1] at this
        exact (Option.some.inj this).symm
      have ex2 : x2 = r2 := by
        have : its2[i]? = some x2 := by simpa using a2
        rw [hr2] at this
        exact (Option.some.inj this).symm
      subst ex1
      subst ex2
      have eN : N + 5 < s.heap.objs.size := lt he
      refine ⟨_, rfl, wpAny_letOwnedTupleGo_enum (s := { s with heap := h', toks := t0 + 1 }) b1 fun h2 he' sb => ?_⟩
      have old1 : ∀ c o, c ∉ [N + 5, N + 4, N + 2, N + 3, N, N + 1] → s.heap.get? c = some o → h1.get? c = some o := fun c o hm e => a9 c o (fun q => hm (by simp [q])) (fun q => hm (by simp [q])) (fun q => hm (by simp [q])) (fun q => hm (by simp [q])) e
      have up2 : ∀ c o, c ≠ N + 5 → h1.get? c = some o → h2.get? c = some o := fun c o hm e => (sb.2 c hm).trans (b4 c o hm e)
      have I1 : Inv X pins σ (upd H s.heap.objs.size (.tup [x, y])) { s with heap := h1, toks := t0 } := I.turnedNew (t' := t0) (ch := [N + 5, N + 4, N + 2, N + 3, N, N + 1]) old1 hf (Nat.le_refl _)
        ⟨by show 2 ≤ sizeLine; decide, [x1, x2], .cons rr1 (.cons rr2 .nil), ⟨_, a7, rfl, _, rfl⟩⟩
      have fr1 : H s.heap.objs.size = none := I.hok.fresh (Nat.le_refl _)
      have fr2 : (upd H s.heap.objs.size (.tup [x, y])) h1.objs.size = none := I1.hok.fresh (Nat.le_refl _)
      have n12 : s.heap.objs.size ≠ h1.objs.size := by
        rw [a8]
        exact (Nat.succ_ne_self _).symm
      have hf1 : ∀ c ∈ [N + 5, N + 4, N + 2, N + 3, N, N + 1], (upd H s.heap.objs.size (.tup [x, y])) c = none := fun c hm => by
        have hc' : c = N + 5 ∨ c = N + 4 ∨ c = N + 2 ∨ c = N + 3 ∨ c = N ∨ c = N + 1 := by simpa using hm
        rw [upd_ne (adL eN hc').1]
        exact (hf c hm).1
      have I2 : Inv X pins σ (upd (upd H s.heap.objs.size (.tup [x, y])) h1.objs.size (.tup [.int (i : Nat), .ref s.heap.objs.size])) { s with heap := h2, toks := t0 + 1 } := I1.turnedNew (t' := t0 + 1) (ch := [N + 5]) (fun c o hm e => up2 c o (by simpa using hm) e) (fun c hm => by
          have hm : c = N + 5 := by simpa using hm
          subst hm
          exact ⟨hf1 _ (by simp), (hf _ (by simp)).2⟩) (Nat.le_refl _)
        ⟨by show 2 ≤ sizeLine; decide, [.int i t0, .ref s.heap.objs.size], .cons ⟨_, rfl⟩ (.cons rfl .nil), ⟨_, (sb.2 _ (by rw [a8]; exact (adL eN (.inl rfl)).2.1.symm)).trans b2, rfl, _, rfl⟩⟩
      have e1 : ((i + 1 : Nat) : Int) = (i : Int) + 1 := by omega
      refine ⟨.ref h1.objs.size, _, I2, rfl, ⟨_, _, x, y, rfl, fr1, ?_, n12, rfl, fun l hl => by rw [I.list_inj hl ha]; exact hx, fun l hl => by rw [I.list_inj hl hb]; exact hy⟩, ⟨⟨_, by rw [e1]; exact he'⟩, ⟨_, b', up2 _ _ n45 a3, .inr ⟨T0, rfl⟩⟩, up2 _ _ n25 (a9 _ _ n24 n23 n20 n21 hTI), ⟨w1, w2, up2 _ _ n35 a4⟩, a5.at fun o q => up2 _ _ n05 q, a6.at fun o q => up2 _ _ n15 q⟩, fun c hm => ?_⟩
      · rw [upd_ne n12.symm] at fr2
        exact fr2
      · have hc' : c = N + 5 ∨ c = N + 4 ∨ c = N + 2 ∨ c = N + 3 ∨ c = N ∨ c = N + 1 := by simpa using hm
        rw [upd_ne (by rw [a8]; exact (adL eN hc').2.1)]
        exact hf1 c hm
  done := by
    intro X hP hw hK hc i pins s σ H E I hf ⟨⟨old, he⟩, ⟨v, cc, hz, hv⟩, hTI, ⟨u1, u2, hTO⟩, l1, l2⟩ ⟨xs, ys, ha, hb, hx, hy⟩
    subst hP hw hK
    obtain ⟨its, rv, p1, _⟩ := I.list ha
    obtain ⟨its2, rv2, p2, _⟩ := I.list hb
    have S := zip_sep2 (N := N) (fp1 := [a]) (fp2 := [b]) (by simpa using la) (by simpa using lb)
    have ei : its.toArray.size = i := by
      have := rv.length
      simp
      omega
    refine enumG_end (R := fun s' => Inv X pins σ H s') he ?_ fun s' hs' => ⟨rfl, hs'⟩
    intro Q' E' kk
    refine zipG_nextEnd (P1 := fun i v => its.toArray[i]? = some v) (P2 := fun i v => its2.toArray[i]? = some v) (St1 := fun i h => h.IsListIter N a i ∧ h.IsList a its.toArray) (St2 := fun i h => h.IsListIter (N + 1) b i ∧ h.IsList b its2.toArray) (n2 := its2.toArray.size) S
        (fun A hA => Draws.list hA _ a (Nat.ne_of_lt la) its.toArray) (fun A hA => Draws.list hA _ b (Nat.ne_of_lt (Nat.lt_succ_of_lt lb)) its2.toArray) (I.ok.hd hc) hz hv hTI ⟨by rw [ei]; exact l1, p1.isList⟩ fun h' tk e a9 he => ?_
    exact kk h' tk e he (I.turnedL (t' := tk) (ch := [N + 5, N + 4, N + 2, N + 3, N, N + 1]) (fun c o hm q => a9 c o (fun z => hm (by simp [z])) (fun z => hm (by simp [z])) (fun z => hm (by simp [z])) q) hf)
  self := fun A i s Q E ⟨⟨_, he⟩, _⟩ h => wpAny_pyIter_enum he h
def iEnumZN (K : PySem.W.Frag) (ta : TA) : TI := fun σ H R => ta σ H fun vs H1 => ∃ a b xs ys, vs = [.ref a, .ref b] ∧ SqL K H1 a xs ∧ SqL K H1 b ys ∧ R (IteZ K a b) H1
theorem pi_enumZN {X : Cx} {elts : List Expr} {kk : Nat} {tpos : Pos} {e e2 : Expr} {ta : TA} {p p2 pos pos2 : Pos} (hge : Gl X "enumerate") (hme : X.mg "enumerate" = none) (hg : Gl X "zip") (hm : X.mg "zip" = none) (ha : PA X [e, e2] ta)
    (hs : starEach [e, e2] X.env = (false, eval e X.env) :: starEach [e2] X.env := by rfl) (hpl : (backTo pos2 (starEach [e2] X.env)).any (·.1) = false := by rfl)
    (na : starEach [.Call (.Name "zip" p2) [e, e2] [] pos2] X.env = (false, eval (.Call (.Name "zip" p2) [e, e2] [] pos2) X.env) :: starEach [] X.env := by rfl) :
    PI X (.Tuple elts kk tpos) (.Call (.Name "enumerate" p) [.Call (.Name "zip" p2) [e, e2] [] pos2] [] pos) (iEnumZN X.K ta) := by
  refine ⟨fun pins s σ H R I h => ?_⟩
  refine Call_ (ld_blt I hge hme boot_enumerate (PyProof.Rows.callWith_type1 (args_cons ?_ na) na))
  refine Call_ (ld_blt I hg hm PyProof.Rows.boot_zip (PyProof.Rows.callWith_type1 (thn (ha.run pos2 pins s σ H _ I h) fun us s1 ⟨vs, H1, I1, r1, q1⟩ => ?_) hs hpl))
  obtain ⟨a, b, xs, ys, ex, hqx, hqy, q⟩ := q1
  subst ex
  cases r1 with
  | cons r rr =>
    cases rr with
    | cons r' rr =>
      cases rr
      cases r
      cases r'
      obtain ⟨its, rv, p1, zs⟩ := I1.list hqx
      obtain ⟨its2, rv2, p2', _⟩ := I1.list hqy
      have la : a < s1.heap.objs.size := p1.lt
      have lb : b < s1.heap.objs.size := p2'.lt
      refine zip_begins2 (begins_list a its.toArray) (begins_list b its2.toArray) p1.isList p2'.isList fun h1 hz hTI hTO g1 g2 hsz hk => args_nil ?_
      refine call_enumZ (s := { s1 with heap := h1 }) hz fun h2 he hk2 => ?_
      rw [show ({ s1 with heap := h1 } : Shared).heap.objs.size = s1.heap.objs.size + 5 from hsz] at he ⊢
      refine wpAny_pyIter_enum he ?_
      have up := fun b u x => hk2 b u (hk b u x)
      refine ⟨s1.heap.objs.size + 5, _, _, _, H1, rfl, I1.kept (t' := s1.toks) up, turn_enumZN la lb, ⟨⟨_, he⟩, ⟨.none, false, hk2 _ _ hz, .inl rfl⟩, hk2 _ _ hTI, ⟨_, _, hk2 _ _ hTO⟩, ⟨_, hk2 _ _ g1, rfl, rfl⟩, ⟨_, hk2 _ _ g2, rfl, rfl⟩⟩, fun c hcm => ?_, q⟩
      have hle : s1.heap.objs.size ≤ c := by
        have hc' : c = s1.heap.objs.size + 5 ∨ c = s1.heap.objs.size + 4 ∨ c = s1.heap.objs.size + 2 ∨ c = s1.heap.objs.size + 3 ∨ c = s1.heap.objs.size ∨ c = s1.heap.objs.size + 1 := by simpa using hcm
        exact adG hc'
      exact I1.fpOk hle (I1.hok.fresh hle)
theorem walk_enumZ {K : PySem.W.Frag} {a b : Addr} {xs ys : List V} (hl : ys.length = xs.length) : Walk (IteZ K a b) xs.length (fun H => SqL K H a xs ∧ SqL K H b ys) (fun i H v H' => ∃ T1 T2 x y, v = .ref T2 ∧ H T1 = none ∧ H T2 = none ∧ T1 ≠ T2 ∧ H' = upd (upd H T1 (.tup [x, y])) T2 (.tup [.int (i : Nat), .ref T1]) ∧ xs[i]? = some x ∧ ys[i]? = some y) := by
  refine ⟨fun i _ hi q => ⟨xs, ys, xs[i], ys[i], q.1, q.2, by simp [hi], by simp [hl, hi]⟩, fun _ q => ⟨xs, ys, q.1, q.2, rfl, hl⟩, fun i H v H' _ q y => ?_⟩
  obtain ⟨T1, T2, x, z, h1, h2, h3, h4, h5, h6, h7⟩ := y
  exact ⟨T1, T2, x, z, h1, h2, h3, h4, h5, h6 xs q.1, h7 ys q.2⟩
end Sz
/-! sorted(d) of a dict of any number of integer keys -/
namespace Sz
open PySem PySem.Spec PyProof.Rows L2
theorem ints_keys {acc : List Value} {vs : List (L2.Key × Value)} {ks : List Int} (hk : vs.map (·.1) = ks.map Sum.inl) (hl : acc.length = ks.length) (h : ∀ (j : Nat) (v : Value), acc[j]? = some v → ∃ (k : L2.Key) (x : Value), vs[j]? = some (k, x) ∧ keyIs k v = true) : IntsAre acc ks :=
  ints_each hl fun j v e => by
    obtain ⟨k, x, e1, e2⟩ := h j v e
    have e3 : (vs.map (·.1))[j]? = some k := by
      rw [List.getElem?_map, e1]
      rfl
    rw [hk, List.getElem?_map] at e3
    cases e4 : ks[j]? with
    | none =>
      rw [e4] at e3
      cases e3
    | some y =>
      rw [e4] at e3
      have e5 : Sum.inl y = k := Option.some.inj e3
      subst e5
      rcases keyIs_shape (show keyIs (Sum.inl y) v = true from e2) with ⟨i, t, ek, ev⟩ | ⟨z, t, ek, ev⟩
      · cases ek
        exact ⟨y, t, rfl, ev⟩
      · cases ek
def rSortDX : List V → Hp → VK → Prop := fun xs H Q => ∃ (a : Addr) (kvs : List (L2.Key × V)) (ks : List Int), xs = [.ref a] ∧ Rd H a (.dK kvs) ∧ kvs.map (·.1) = ks.map Sum.inl ∧ ∀ (ys : List Int) (p : Addr), ys.Perm ks → ys.Pairwise (· ≤ ·) → H p = none → Q (.ref p) (upd H p (.lst (ys.map V.int)))
theorem call_sortedDX {X : Cx} (hcalm : X.calm = true) : CallR X (.builtin "sorted") rSortDX := by
  intro pins s σ H xs us Q I r ⟨a, kvs, ks, ex, hd, hks, q⟩
  subst ex
  obtain ⟨u, eu, rx⟩ := vals1 r
  subst eu
  cases rx
  obtain ⟨z, lo, vs, rel, dd⟩ := dk_rd I.hok hd
  obtain ⟨ep, hat⟩ := dd.dictAt
  have hkeys : vs.map (·.1) = ks.map Sum.inl := rel.keys.symm.trans hks
  have hl : vs.length = ks.length := by simpa using congrArg List.length hkeys
  have hz : vs.length ≤ sizeLine := by
    rw [← rel.length]
    exact z
  refine Calls.call_function_entry kind_sorted plain_sorted entry_sorted (args_sorted1 _) ?_
  unfold Builtin.«sorted»
  refine wpAny_bind (m := checkCount "sorted" 1 1 _) (wpAny_pure (wpAny_bind ?_))
  refine PySem.W.kdu_collect (A := X.A.in1) (PySem.W.kdl_dict (knd := mixKind X.prog X.w) (kvs := vs) (ep := ep) lo) (I.ok.hd hcalm) hat hz fun h' tk acc hk hacc => ?_
  have hal : acc.toList.length = ks.length := by rw [Array.length_toList, hacc.1, hl]
  have hS : IntsAre acc.toList ks := ints_keys hkeys hal fun j v e => hacc.2 j v (by rw [← Array.getElem?_toList]; exact e)
  have hz2 : acc.toList.length ≤ sizeLine := by omega
  have I1 : Inv X pins σ H { s with heap := h', toks := tk } := I.kept hk
  refine wpAny_bind (wpAny_newList ?_ hz2)
  have hoL : (h'.push (seqObj "list" acc.toList.toArray 0)).get? h'.objs.size = some (seqObj "list" acc.toList.toArray 0) := Heap.get?_push_size _ rfl
  show wpAny _ _ _ _ _ { s with heap := h'.push (seqObj "list" acc.toList.toArray 0), toks := tk }
  refine wpAny_bind (wpAny_holding (wpAny_call_entry slot_list_sort ⟨_, hoL, rfl⟩ entry_list_sort (SrtO.list_sort_ord (s := { s with heap := h'.push (seqObj "list" acc.toList.toArray 0), toks := tk }) SrtO.swo_int hoL hz2 (fun h2 => SrtO.ints_sortable hS h2) fun out h1 h2 => ⟨_, rfl, ?_⟩) (args_list_sort _)))
  obtain ⟨k1, k2, k3⟩ := SrtO.ints_out hS h1 h2
  obtain ⟨e', he'⟩ := sortedHeap_at (vs := acc.toList) (out := out.toArray) hoL
  have hlen : ((out.map SrtO.iv).map V.int).length ≤ sizeLine := by
    rw [List.length_map, k2.length_eq, ← hal]
    exact hz2
  refine wpAny_pure ⟨_, rfl, .ref h'.objs.size, upd H h'.objs.size (.lst ((out.map SrtO.iv).map V.int)), I1.laid (t' := tk) (fun b u e => ?_) (Nat.le_refl _) (show ObjOk X.prog X.w _ _ _ (.lst ((out.map SrtO.iv).map V.int)) from ⟨hlen, out, e', vals_of_ints k1, he'⟩), rfl, q _ _ k2 k3 (I1.hok.fresh (Nat.le_refl _))⟩
  have hb : b < h'.objs.size := Heap.lt_size e
  rw [sortedHeap_old (Nat.ne_of_lt hb) (by rw [size_push']; exact Nat.lt_succ_of_lt hb)]
  exact Heap.get?_push_of_some _ e
end Sz
/-! a | b of two sets of one integer each -/
namespace Sz
open PySem PySem.Spec PyProof.Rows L2 PpSet
section
variable {P : Program} {w : World} {A : Around} {E : Value → Shared → Prop} {s : Shared} {a b : Addr}
theorem or_entry : entryFor table "set.__or__" = some Builtin.«frozenset.__or__» := entryFor_alias (id' := "frozenset.__or__") (by kernel_rfl) rfl (by decide +kernel) (by kernel_rfl)
/-- the one integer k, in a table of eight places -/
structure OneAt (w : World) (h : Heap) (r : Addr) (k : Int) (tk : Tok) (o : Obj) (ep : Nat) (t : SetTable) : Prop where
  ob : h.get? r = some o
  ex : o.ExactSet
  data : o.data = .set #[(hashInt k, .int k tk)] ep t
  mask : t.mask = 7
  dum : t.dummies = #[]
  fit : t.fits 1 = true
  ris : Ris t.place.toList
  led : w.params.followText "set-order" = true ∨ t.led = true
theorem OneAt.setR {h : Heap} {r : Addr} {k : Int} {tk : Tok} {o : Obj} {ep : Nat} {t : SetTable} (O : OneAt w h r k tk o ep t) : SetR w h r (fun j => decide (j = k)) 1 :=
  ⟨o, _, ep, t, O.ob, O.ex, O.data, fun e he => by
    rw [List.mem_singleton.mp (show e ∈ [(hashInt k, Value.int k tk)] from he)]
    exact ⟨k, tk, rfl, rfl⟩, by simp, fun j => by
    rw [decide_eq_true_iff]
    show j = k ↔ j ∈ [keyOf (hashInt k, Value.int k tk)]
    rw [List.mem_singleton]
    rfl, (show 1 < scanBound by decide), O.fit, rfl, O.ris, O.led⟩
/-- a set of one integer, told by its words -/
theorem one_of {S : Int → Bool} (R : SetR w s.heap a S 1) : ∃ (k : Int) (tk : Tok) (o : Obj) (ep : Nat) (t : SetTable), s.heap.get? a = some o ∧ o.ExactSet ∧ o.data = .set #[(hashInt k, .int k tk)] ep t ∧ t.fits 1 = true ∧ Ris t.place.toList ∧ (w.params.followText "set-order" = true ∨ t.led = true) ∧ ∀ j, S j = decide (j = k) := by
  obtain ⟨o, es, ep, t, ho, hx, hd, g, nd, hm, hb, hf, hn, hr, hl⟩ := R
  obtain ⟨l⟩ := es
  match l, hn with
  | [e], _ =>
    obtain ⟨k, tk, e1, e2⟩ := g e (List.mem_singleton.mpr rfl)
    obtain ⟨h0, v0⟩ := e
    subst e1
    subst e2
    refine ⟨k, tk, o, ep, t, ho, hx, hd, hf, hr, hl, fun j => ?_⟩
    have q := hm j
    rw [show ([(hashInt k, Value.int k tk)].map keyOf) = [k] from rfl, List.mem_singleton] at q
    by_cases c : j = k
    · rw [q.mpr c, decide_eq_true c]
    · cases z : S j with
      | true => exact absurd (q.mp z) c
      | false => exact (decide_eq_false c).symm
theorem isSet {Q : Bool → Shared → Prop} (hT : s.TypeIs (.ref a) "set") (h : Q true s) : wpAny (model P w) A (Builtin.Frozenset.isAnySet (.ref a)) Q E s := by
  unfold Builtin.Frozenset.isAnySet orM
  refine wpAny_bind (wpAny_isInstance hT sub_set_self ?_)
  exact wpAny_pure h
theorem room0 {t : SetTable} (hm : t.mask = 7) (hd : t.dummies = #[]) {n : Nat} (hp : t.place.size + n ≤ 4) : t.roomFor n = none := by
  unfold SetTable.roomFor SetTable.fill
  rw [hm, hd, if_neg (by show ¬ (t.place.size + 0 + n) * 5 ≥ 7 * 3; omega)]
/-- one place in a clean table of eight -/
theorem laid_one (finger moves : Nat) (led plain : Bool) (h : Int) : ∃ t' , SetTable.laid 7 finger moves led plain #[h] = some (t', #[0]) ∧ t'.mask = 7 ∧ t'.dummies = #[] ∧ t'.fits 1 = true ∧ Ris t'.place.toList ∧ t'.led = led := by
  obtain ⟨t', order, e, hp, T, em, el, _, ed⟩ := relaid_ok { mask := 7, place := #[], dummies := #[], finger := finger, led := led, moves := moves, plain := plain } (hs := #[h]) (wanted := 0) (M := 7) (by decide) (.inl rfl) (show 1 ≤ 7 by decide)
  obtain ⟨l⟩ := order
  have hl : l = [0] := List.perm_singleton.mp hp
  subst hl
  have sz := T.sz
  refine ⟨t', e, em, ed, ?_, T.ris, el⟩
  unfold SetTable.fits SetTable.fill
  rw [ed, em, show t'.place.size = 1 from sz]
  rfl
theorem wp_unit {α : Type} {x : Sem α} {f : Unit → Sem α} {Q : α → Shared → Prop} (e : (pure () >>= f) = x) (h : wpAny (model P w) A (f ()) Q E s) : wpAny (model P w) A x Q E s := by
  rw [← e]
  exact wpAny_bind (wpAny_pure h)
theorem copy_one {k : Int} {tk : Tok} {o : Obj} {ep : Nat} {t : SetTable} {Q : Value → Shared → Prop} (ho : s.heap.get? a = some o) (hx : o.ExactSet) (hd : o.data = .set #[(hashInt k, .int k tk)] ep t) (hf : t.fits 1 = true) (hr : Ris t.place.toList) (hl : w.params.followText "set-order" = true ∨ t.led = true)
    (hQ : ∀ r h' o' ep' t', s.heap.objs.size = r → (∀ x u, s.heap.get? x = some u → h'.get? x = some u) → OneAt w h' r k tk o' ep' t' → Q (.ref r) { s with heap := h' }) :
    wpAny (model P w) A (Builtin.Frozenset.copyOf a) Q E s := by
  unfold Builtin.Frozenset.copyOf Builtin.Frozenset.baseOf
  refine wpAny_bind (wpAny_bind (wpAny_isInstance (⟨o, ho, hx.1⟩ : s.TypeIs (.ref a) "set") sub_set_self (wpAny_pure ?_)))
  refine wpAny_bind (newSet_ok ?_)
  refine wpAny_bind (wpAny_pure ?_)
  refine wpAny_bind ?_
  unfold setMerge
  have hsz := Heap.lt_size ho
  have ne : s.heap.objs.size ≠ a := fun z => Nat.lt_irrefl _ (z ▸ hsz)
  generalize hO : ({ cls := .type "set", dict := none, data := .set #[] 0 (.fresh 0 0 (!w.params.followText "set-order")) } : Obj) = oN
  have ho2 : (s.heap.push oN).get? a = some o := Heap.get?_push_of_some _ ho
  have hn : (s.heap.push oN).get? s.heap.objs.size = some oN := Heap.get?_push_size _ (by rw [← hO]; rfl)
  have hnd : oN.data = .set #[] 0 (.fresh 0 0 (!w.params.followText "set-order")) := by rw [← hO]
  have hnx : oN.ExactSet := by rw [← hO]; exact ⟨rfl, rfl, rfl⟩
  refine wp_if_neg (by simp [ne]) ?_
  try refine wpAny_bind (wpAny_pure ?_)
  refine wpAny_bind (wpAny_setState_of ho2 hd hf ?_)
  dsimp only
  refine wp_if_neg (by simp) ?_
  try refine wpAny_bind (wpAny_pure ?_)
  unfold setRoomFor
  refine wpAny_bind (wpAny_bind (wpAny_setState_of hn hnd rfl ?_))
  dsimp only
  rw [room0 rfl rfl (show 0 + 1 ≤ 4 by decide)]
  dsimp only
  refine wpAny_pure ?_
  refine wpAny_bind (wpAny_setState_of hn hnd rfl ?_)
  dsimp only
  have fin : ∀ t', t'.mask = 7 → t'.dummies = #[] → t'.fits 1 = true → Ris t'.place.toList → (w.params.followText "set-order" = true ∨ t'.led = true) → ∀ Q' : Unit → Shared → Prop, (∀ h' : Heap, (∀ x u, s.heap.get? x = some u → h'.get? x = some u) → (∃ o' ep', OneAt w h' s.heap.objs.size k tk o' ep' t') → Q' () { s with heap := h' }) →
      wpAny (model P w) A (storeSet s.heap.objs.size #[(hashInt k, .int k tk)] t') Q' E { s with heap := s.heap.push oN } := fun t' m1 d1 f1 r1 l1 Q' q => by
    refine wpAny_storeSet_of hn hnd (q _ (fun x u e => ?_) ⟨_, _, store_at hn hnd, hnx, rfl, m1, d1, f1, r1, l1⟩) (show 1 ≤ sizeLine by decide)
    have hx2 : x ≠ s.heap.objs.size := Nat.ne_of_lt (Heap.lt_size e)
    exact ((Heap.SameBut.update (s.heap.push oN) s.heap.objs.size (Obj.putSet #[(hashInt k, .int k tk)] t')).2 x hx2).trans (Heap.get?_push_of_some _ e)
  have led0 : w.params.followText "set-order" = true ∨ ((SetTable.fresh 0 0 (!w.params.followText "set-order")).led && t.led) = true := by
    rcases hl with z | z
    · exact .inl z
    · cases y : w.params.followText "set-order" with
      | true => exact .inl rfl
      | false => exact .inr (by rw [z]; rfl)
  have road0 : (SetTable.fresh 0 0 (!w.params.followText "set-order")).road t = if (7 == t.mask && t.dummies.isEmpty) = true then .slotForSlot else .clean := rfl
  cases hroad : (SetTable.fresh 0 0 (!w.params.followText "set-order")).road t with
  | slotForSlot =>
    have key : t.mask = 7 ∧ t.dummies = #[] := by
      rw [road0] at hroad
      split at hroad
      · rename_i z
        rw [Bool.and_eq_true, beq_iff_eq] at z
        exact ⟨z.1.symm, Array.isEmpty_iff.mp z.2⟩
      · cases hroad
    dsimp only
    refine fin { mask := t.mask, place := t.place, dummies := t.dummies, finger := (SetTable.fresh 0 0 (!w.params.followText "set-order")).finger, led := ((SetTable.fresh 0 0 (!w.params.followText "set-order")).led && t.led), moves := (SetTable.fresh 0 0 (!w.params.followText "set-order")).moves, plain := ((SetTable.fresh 0 0 (!w.params.followText "set-order")).plain && t.plain) } key.1 key.2 hf hr led0 _ fun h' kp ⟨o', ep', O⟩ => wpAny_pure (hQ _ h' o' ep' _ rfl kp O)
  | clean =>
    dsimp only
    obtain ⟨t', e, em, ed, ef, er, el⟩ := laid_one 0 0 ((SetTable.fresh 0 0 (!w.params.followText "set-order")).led && t.led) ((SetTable.fresh 0 0 (!w.params.followText "set-order")).plain && t.plain) (hashInt k)
    refine wpAny_bind ?_
    rw [show Array.map (fun x : Int × Value => x.1) #[(hashInt k, Value.int k tk)] = #[hashInt k] by simp]
    rw [show (SetTable.fresh 0 0 (!w.params.followText "set-order")).mask = 7 from rfl, show (SetTable.fresh 0 0 (!w.params.followText "set-order")).finger = 0 from rfl, show (SetTable.fresh 0 0 (!w.params.followText "set-order")).moves = 0 from rfl, e]
    refine (show wpAny (model P w) A (do
      let some (q, ord) := (some (t', #[0]) : Option (SetTable × Array Nat)) | unsupported "internal:set-table-without-room"
      let ys := ord.filterMap fun i => (#[(hashInt k, Value.int k tk)] : Array (Int × Value))[i]?
      if ys.size != 1 then
        unsupported "internal:set-table-lost-an-element"
      pure (ys, q)) _ _ _ from ?_)
    dsimp only
    rw [show Array.filterMap (fun i => (#[(hashInt k, Value.int k tk)] : Array (Int × Value))[i]?) #[0] = #[(hashInt k, Value.int k tk)] by simp]
    refine wp_if_neg (by simp) (wpAny_pure ?_)
    dsimp only
    exact fin t' em ed ef er (by rw [el]; exact led0) _ fun h' kp ⟨o', ep', O⟩ => wpAny_pure (hQ _ h' o' ep' _ rfl kp O)
  | oneByOne =>
    exfalso
    rw [road0] at hroad
    split at hroad <;> cases hroad
theorem pick_one {α : Type} (next : Nat → Nat) (x : α) : pickOrder next #[x] = #[x] := by
  show pickOrder.go next 1 0 [x] #[] = #[x]
  unfold pickOrder.go
  simp only [List.length_singleton, Nat.mod_one, List.getElem?_cons_zero]
  unfold pickOrder.go
  rfl
/-- the other's one integer is put to it -/
theorem merge_one {r : Addr} {k k2 : Int} {tk tk2 : Tok} {o o2 : Obj} {ep ep2 : Nat} {t t2 : SetTable} {Q : Unit → Shared → Prop} (O : OneAt w s.heap r k tk o ep t) (hb : s.heap.get? b = some o2) (hd : o2.data = .set #[(hashInt k2, .int k2 tk2)] ep2 t2) (hf : t2.fits 1 = true) (hl : w.params.followText "set-order" = true ∨ t2.led = true) (ne : r ≠ b)
    (hQ : ∀ h' n, Heap.SameBut r s.heap h' → SetR w h' r (fun j => decide (j = k) || decide (j = k2)) n → n ≤ 2 → Q () { s with heap := h' }) (id : String) :
    wpAny (model P w) A (Builtin.Frozenset.merge id r b) Q E s := by
  unfold Builtin.Frozenset.merge
  refine wpAny_bind (wpAny_setEpoch_of hb hd hf ?_)
  unfold setMerge
  refine wp_if_neg (by simp [ne]) ?_
  try refine wpAny_bind (wpAny_pure ?_)
  refine wpAny_bind (wpAny_setState_of hb hd hf ?_)
  dsimp only
  refine wp_if_neg (by simp) ?_
  try refine wpAny_bind (wpAny_pure ?_)
  have ps : t.place.size = 1 := by
    have q := O.fit
    unfold SetTable.fits at q
    rw [Bool.and_eq_true, beq_iff_eq] at q
    exact q.1
  unfold setRoomFor
  refine wpAny_bind (wpAny_bind (wpAny_setState_of O.ob O.data O.fit ?_))
  dsimp only
  rw [room0 O.mask O.dum (by rw [ps]; exact (show 1 + 1 ≤ 4 by decide))]
  dsimp only
  refine wpAny_pure ?_
  refine wpAny_bind (wpAny_setState_of O.ob O.data O.fit ?_)
  dsimp only
  have hroad : t.road t2 = .oneByOne := by
    unfold SetTable.road SetTable.fill
    rw [ps, O.dum]
    rfl
  rw [hroad]
  dsimp only
  unfold setWalkUnseen
  have walk : ∀ Q' : Array (Int × Value) → Shared → Prop, Q' #[(hashInt k2, .int k2 tk2)] s → wpAny (model P w) A (setWalk b) Q' E s := fun Q' q => by
    unfold setWalk
    refine wpAny_bind (wpAny_setState_of hb hd hf ?_)
    dsimp only
    refine wpAny_bind (wpAny_byText ?_)
    cases hft : w.params.followText "set-order" with
    | true =>
      refine wp_if_pos rfl (wpAny_bind (wpAny_askSetting (wpAny_pure ?_)))
      rw [pick_one]
      exact q
    | false =>
      refine wp_if_neg (by simp) ?_
      refine wp_if_neg (show ¬ (!t2.plain && decide ((1 : Nat) > 1)) = true by simp) ?_
      refine wpAny_bind (show wpAny (model P w) A (if (!t2.led && decide ((1 : Nat) > 1)) = true then unsupported "set:maker-not-led" else pure ()) _ _ _ from wp_if_neg (by simp) (wpAny_pure ?_))
      exact wpAny_pure q
  refine wpAny_bind (wpAny_bind (wpAny_setState_of hb hd hf ?_))
  dsimp only
  refine wpAny_bind (wpAny_byText ?_)
  refine wp_if_pos (by simp) (walk _ ?_)
  simp only [List.forIn_toArray, List.forIn_cons, List.forIn_nil, bind_assoc, pure_bind]
  refine wpAny_bind (wpAny_holding ?_)
  have e2 : hashInt k2 = (intKind P w).hash k2 := rfl
  rw [e2]
  refine setR_add_hashed O.setR (show 1 + 1 < scanBound by decide) fun h' sb R' => ?_
  have hb' : h'.get? b = some o2 := (sb.2 b (Ne.symm ne)).trans hb
  unfold Builtin.Frozenset.unchanged
  refine wpAny_bind (wpAny_bind (wpAny_setEpoch_of hb' hd hf (wp_if_neg (by simp) (wpAny_pure ?_))))
  refine wpAny_bind (wpAny_setState_of hb' hd hf ?_)
  dsimp only
  refine wpAny_bind (wp_if_neg (by simp) (wpAny_pure ?_))
  dsimp only
  refine wpAny_bind (wpAny_pure (wpAny_pure (hQ h' _ sb R' ?_)))
  split <;> decide
theorem or_one {S S' : Int → Bool} {Q : Value → Shared → Prop} (Ra : SetR w s.heap a S 1) (Rb : SetR w s.heap b S' 1) (ne : a ≠ b)
    (hQ : ∀ p h' n, s.heap.objs.size = p → (∀ x u, s.heap.get? x = some u → h'.get? x = some u) → SetR w h' p (fun j => S j || S' j) n → n ≤ 2 → Q (.ref p) { s with heap := h' }) :
    wpAny (model P w) A (binaryOp .BitOr (.ref a) (.ref b)) Q E s := by
  obtain ⟨k, tk, o, ep, t, ho, hx, hd, hf, hr, hl, eS⟩ := one_of Ra
  obtain ⟨k2, tk2, o2, ep2, t2, ho2, hx2, hd2, hf2, hr2, hl2, eS2⟩ := one_of Rb
  have hTa : s.TypeIs (.ref a) "set" := ⟨o, ho, hx.1⟩
  have hTb : s.TypeIs (.ref b) "set" := ⟨o2, ho2, hx2.1⟩
  refine wpAny_binaryOp_same (op := .BitOr) (T := "set") hTa hTb F.fills_set_or F.slot_set_or (wpAny_call_entry F.slot_set_or hTa or_entry ?_ (F.args_set_or_2 _ _))
  unfold Builtin.«frozenset.__or__»
  refine wpAny_bind (m := Builtin.Frozenset.slot1 "__or__" _) ?_
  unfold Builtin.Frozenset.slot1 slotArgs
  simp only [List.isEmpty_nil, Bool.not_true, Bool.false_eq_true, ↓reduceIte, bind_assoc, List.length_nil, bne_self_eq_false]
  refine wpAny_bind (wp_if_neg (by simp) (wpAny_pure ?_))
  refine wpAny_pure ?_
  dsimp only
  refine wpAny_bind ?_
  unfold andM
  refine wpAny_bind (isSet hTa ?_)
  show wpAny _ _ (Builtin.Frozenset.isAnySet (.ref b)) _ _ _
  refine isSet hTb ?_
  refine wp_if_neg (by simp) ?_
  refine wpAny_bind (wpAny_pure ?_)
  refine wpAny_bind (wpAny_bind (m := Builtin.Frozenset.copyOf a) (copy_one ho hx hd hf hr hl fun r h' o' ep' t' er kp O => ?_))
  have lt : ∀ {x : Addr} {u : Obj}, s.heap.get? x = some u → x ≠ r := fun {x u} e z => Nat.lt_irrefl x (Nat.lt_of_lt_of_eq (Heap.lt_size e) (er.trans z.symm))
  have hTb2 : ({ s with heap := h' } : Shared).TypeIs (.ref b) "set" := ⟨o2, kp _ _ ho2, hx2.1⟩
  refine wp_if_pos (by simp [Ne.symm ne]) ?_
  refine wpAny_bind (wpAny_pure ?_)
  refine wpAny_bind (wpAny_holding ?_)
  unfold Builtin.Frozenset.updateFrom
  refine wpAny_bind (isSet hTb2 ?_)
  refine wp_if_pos rfl ?_
  refine wpAny_bind (wpAny_pure ?_)
  refine merge_one O (kp _ _ ho2) hd2 hf2 hl2 (Ne.symm (lt ho2)) (fun h2 n sb R n2 => ?_) _
  refine wpAny_pure (wpAny_pure ⟨_, rfl, (fun z => by cases z), hQ r h2 n er (fun x u e => (sb.2 x (lt e)).trans (kp x u e)) (R.congr fun j => ?_) n2⟩)
  rw [eS, eS2]
end
/-- a | b -/
def rOrS (w : World) : R2 := fun x y H Q => ∃ (a b : Addr) (S S' : Int → Bool), x = .ref a ∧ y = .ref b ∧ a ≠ b ∧ H a = some (SetO w a S 1) ∧ H b = some (SetO w b S' 1) ∧
  ∀ (p : Addr) (n : Nat), n ≤ 2 → H p = none → Q (.ref p) (upd H p (SetO w p (fun j => S j || S' j) n))
theorem op_orS {X : Cx} : OpR X (binaryOp .BitOr) (rOrS X.w) := by
  intro pins s σ H x y v u Q I rx ry h
  obtain ⟨a, b, S, S', rfl, rfl, ne, ha, hb, q⟩ := h
  cases rx
  cases ry
  refine or_one (setO_get I ha) (setO_get I hb) ne fun p h' n ep kp R n2 => ?_
  subst ep
  have hn : H s.heap.objs.size = none := I.hok.fresh (Nat.le_refl _)
  exact ⟨.ref _, _, I.laid (t' := s.toks) kp (Nat.le_refl _) (setO_new R), rfl, q _ n n2 hn⟩
end Sz
/-! classes that are no subclasses of others; clauses that note the bases first and then tell; `had` with the text of what is returned -/
namespace Sz
open PySem PySem.Spec PyProof.Rows L2
structure NotTab (K : PySem.W.Frag) (ps : List (Str × Str)) : Prop where
  no : ∀ p ∈ ps, PySem.W.kitOne K (.ref (He.ga K p.1)) (.ref (He.ga K p.2)) = some false
def notB (K : PySem.W.Frag) (ps : List (Str × Str)) : Bool := ps.all fun p => decide (PySem.W.kitOne K (.ref (He.ga K p.1)) (.ref (He.ga K p.2)) = some false)
theorem not_ok {K : PySem.W.Frag} {ps : List (Str × Str)} (h : notB K ps = true) : NotTab K ps := ⟨fun p hp => of_decide_eq_true (List.all_eq_true.mp h p hp)⟩
/-- a clause and the own base that its class is not of -/
def clN (K : PySem.W.Frag) (c : Cl1 × Str) : Clause := ⟨[.ref (He.ga K c.1.w)], 2, fun a oe _ _ => tSeq (tAsg (tAndV (tCB (rIsP K a oe) (tCons (tVar 2) (tCons (tC (.ref (He.ga K c.1.B))) tNil))) (tAndV (tCB (rIsP K a oe) (tCons (tVar 2) (tCons (tC (.ty c.1.b)) tNil))) (tNotV (tCB (rIsP K a oe) (tCons (tVar 2) (tCons (tC (.ref (He.ga K c.2))) tNil)))))) (gName 3)) (tRet (tLst (tCons (tC (.str c.1.w)) (tCons (tXfP K a oe c.1.f (tVar 2)) (tCons (tVar 3) tNil)))))⟩
theorem wcl_outN {K : PySem.W.Frag} {cs : List Cl1} (T : OutTab K cs) {ds : List (Cl1 × Str)} (hds : ∀ d ∈ ds, d.1 ∈ cs) (hno : ∀ d ∈ ds, PySem.W.kitOne K (.ref (He.ga K d.1.w)) (.ref (He.ga K d.2)) = some false) {Wout : WX} {D : Ends} {σ : L2.St} {H : Hp} {c : Cl1 × Str} {dd : Addr} {v : V} (hc : c ∈ ds) (hd : H dd = some (.xd [(c.1.f, v)])) (hi : 3 < σ.length)
    (inj : ∀ d ∈ ds, d.1 = c.1 → d = c)
    (k : ∀ l, H l = none → D.rt (.ref l) (upd H l (.lst [.str c.1.w, v, .bl true]))) : ∀ cs' : List (Cl1 × Str), (∀ x ∈ cs', x ∈ ds) → c ∈ cs' → wCl K Wout D (cs'.map (clN K)) (.ref (He.ga K c.1.w)) (some dd) σ H
  | [], _, h => by cases h
  | x :: r, hs, h => by
    have hx := hs x (.head _)
    refine ⟨decide (c.1 = x.1), T.ex c.1 (hds c hc) x.1 (hds x hx), fun e a oe hz hv na => ?_, fun e => ?_⟩
    · have e : c.1 = x.1 := of_decide_eq_true e
      obtain rfl : x = c := inj x hx e.symm
      have hg : (σ.set 2 (some (.ref a)))[2]? = some (some (.ref a)) := List.getElem?_set_self (by omega)
      have hdn : oe.dict = none ∨ ∃ (d : Addr) (fs : List (Str × V)), oe.dict = some d ∧ H d = some (.xd fs) := .inr ⟨dd, _, hz.2, hd⟩
      have lk : ([(x.1.f, v)] : List (Str × V)).lookup x.1.f = some v := by simp
      have hm := hds x hc
      refine ⟨_, hg, .ref (He.ga K x.1.B), _, _, true, rfl, fun _ r => r, hz.1, T.exc x.1 hm, hv, hdn, T.k1 x.1 hm, _, rfl, ?_⟩
      rw [if_pos rfl]
      refine ⟨_, hg, .ty x.1.b, _, _, true, rfl, fun _ r => r, hz.1, T.exc x.1 hm, hv, hdn, T.k2 x.1 hm, _, rfl, ?_⟩
      rw [if_pos rfl]
      refine ⟨_, hg, .ref (He.ga K x.2), _, _, false, rfl, fun _ r => r, hz.1, T.exc x.1 hm, hv, hdn, hno x hx, _, rfl, ?_⟩
      have h3 : ((σ.set 2 (some (.ref a))).set 3 (some (.bl true)))[3]? = some (some (.bl true)) := List.getElem?_set_self (by rw [List.length_set]; omega)
      have h2 : ((σ.set 2 (some (.ref a))).set 3 (some (.bl true)))[2]? = some (some (.ref a)) := by
        rw [List.getElem?_set_ne (by decide)]
        exact hg
      exact ⟨_, h2, rfl, _, dd, _, v, hz.1, hz.2, hv, T.xf x.1 hm, T.no x.1 hm, hd, lk, _, h3, (by show 3 ≤ sizeLine; decide), fun l hl => k l hl⟩
    · have ne : c.1 ≠ x.1 := of_decide_eq_false e
      exact wcl_outN T hds hno hc hd hi inj k r (fun y hy => hs y (.tail _ hy)) (by
        cases h with
        | head => exact absurd rfl ne
        | tail _ h => exact h)
def TOutH (K : PySem.W.Frag) (cs : List (Cl1 × Str)) : (XK → Hp → VK → Prop) → Hp → VK → Prop := fun tl H Q =>
  tl (fun cls d H' => ∃ c ∈ cs, cls = .ref (He.ga K c.1.w) ∧ ∃ dd v, d = some dd ∧ H' dd = some (.xd [(c.1.f, v)]) ∧ ∀ l, H' l = none → Q (.ref l) (upd H' l (.lst [.str c.1.w, v, .bl true]))) H
    (fun v H' => ∃ z, flatShown v = some z ∧ ∀ l, H' l = none → Q (.ref l) (upd H' l (.lst [.str "had", .str z])))
theorem outH_gives {X : Cx} {x a t e b : Str} {st : Stmt} {cs : List Cl1} {ds : List (Cl1 × Str)} {h0 : ExceptHandler} {hds : List ExceptHandler} {p1 p2 p3 p4 p5 p6 p7 p8 p9 p10 p11 : Pos} {j1}
    (hN : [a, t, e, b].Nodup) (hbd : defBody st = [.Try [.Assign [.Name t p1] (.Call (.Name a p2) [] [] p3) p4] (h0 :: hds) [] [] p5, .Return (some (.List [.Constant (.str "had") j1 p6, .Call (.Name "repr" p7) [.Name t p8] [] p9] p10)) p11])
    (ka : (defScope st).names.lookup a = some .local) (kt : (defScope st).names.lookup t = some .local) (T : OutTab X.K cs) (hm : ∀ d ∈ ds, d.1 ∈ cs) (hno : ∀ d ∈ ds, PySem.W.kitOne X.K (.ref (He.ga X.K d.1.w)) (.ref (He.ga X.K d.2)) = some false) (inj : ∀ d ∈ ds, ∀ d' ∈ ds, d.1 = d'.1 → d = d')
    (hrep : (defScope st).names.lookup ("repr" : Str) = some .globalImplicit) (mr : X.mg "repr" = none)
    (hcl : ∀ (g : Addr) (cdg : Value) (s : Shared) (H : Hp), ClOk (cxOf C8.CX0 X.prog X.w X.K X.mg X.base [a, t, e, b] x (defScope st) g cdg X.A X.stack s H C8.E0).nox (h0 :: hds) (ds.map (clN X.K)))
    (d7 : (t == ("__debug__" : Str)) = false := by decide) (d8 : (t == ("__classdict__" : Str)) = false := by decide) :
    Gives X [a, t, e, b] x st a (TOutH X.K ds) := by
  intro g cdg f c' s H Q tl act hc hq
  rw [hbd]
  refine ⟨_, pss_cons (ps_tryA (X := (cxOf C8.CX0 X.prog X.w X.K X.mg X.base [a, t, e, b] x (defScope st) g cdg X.A X.stack s H C8.E0).nox) (Wout := fun _ _ _ _ => False)
    (tb := fun W D σ H => ∃ Ech : XK, (∀ cls d σ' H', Ech cls d H' → σ'.length = 4 → W cls d σ' H') ∧ σ[0]? = some (some (.ref f)) ∧ H c' = some (LamX.CodeO c' (X.env.qual ++ "<lambda>")) ∧ ∃ K : VK, (∀ v H', K v H' → D.nx (σ.set 1 (some v)) H') ∧ tl Ech H K)
    rfl rfl hN L2.takes0 (fun W pn xe tk _ => ?_) (hcl g cdg s H))
    (pss_one (ps_ret (pe_lst (pa_cons pe_str (pa_cons (pe_callB cr_repr hrep mr (by decide +kernel) (pa_cons (pe_var (i := 1) rfl (.inl kt) d7 d8) pa_nil)) pa_nil))))), ?_⟩
  · constructor
    intro pins s' σ H' D I ⟨Ech, hW, h1, h2, K, hK, h3⟩
    have hp := act _ pn xe Ech p2 p3 (takes_len tk) (fun cls d σ' H' z hl => hW cls d σ' H' z hl)
    exact (pss_one (ps_set (i := 1) (pos := p4) hN rfl (.inl kt) (pe_weak hp))).run pins s' σ H' D I ⟨K, hK, h1, h2, h3⟩
  · refine ⟨_, fun cls d σ' H' z hl => ?_, rfl, hc, _, fun v H' z => ?_, hq⟩
    rotate_left
    · obtain ⟨z, hz, k⟩ := z
      exact ⟨_, rfl, _, z, rfl, hz, (by show 2 ≤ sizeLine; decide), fun l hl => k l hl⟩
    obtain ⟨c, hcm, rfl, dd, v, rfl, hd, k⟩ := z
    exact wcl_outN T hm hno hcm hd (by omega) (fun d hd' e => inj d hd' c hcm e) k ds (fun _ h => h) hcm
end Sz
set_option pp.maxSteps 900
namespace Sz
open PySem PySem.Spec PyProof.Rows L2
def top (i : Nat) : Stmt := PySem.Challenge.pw_sizestacks_k33_comparing_refused.main.body.getD i (.Pass ⟨0, 0, 0, 0⟩)
abbrev s_NotAStack___init__ : Stmt := inClass (top 4) 0
theorem sc_NotAStack___init__ : FnScope ["self", "value"] ["self", "value"] (defScope s_NotAStack___init__) := ⟨rfl, rfl, rfl, by decide +kernel, rfl, by decide +kernel, by decide +kernel⟩
abbrev s_InvalidNumber___init__ : Stmt := inClass (top 8) 0
theorem sc_InvalidNumber___init__ : FnScope ["self", "value"] ["self", "value"] (defScope s_InvalidNumber___init__) := ⟨rfl, rfl, rfl, by decide +kernel, rfl, by decide +kernel, by decide +kernel⟩
abbrev s_TooFine___init__ : Stmt := inClass (top 12) 0
theorem sc_TooFine___init__ : FnScope ["self", "limit"] ["self", "limit"] (defScope s_TooFine___init__) := ⟨rfl, rfl, rfl, by decide +kernel, rfl, by decide +kernel, by decide +kernel⟩
abbrev s_is_integer : Stmt := top 22
theorem sc_is_integer : FnScope ["value"] ["value"] (defScope s_is_integer) := ⟨rfl, rfl, rfl, by decide +kernel, rfl, by decide +kernel, by decide +kernel⟩
abbrev s_is_between : Stmt := top 23
theorem sc_is_between : FnScope ["value", "least", "most"] ["value", "least", "most"] (defScope s_is_between) := ⟨rfl, rfl, rfl, by decide +kernel, rfl, by decide +kernel, by decide +kernel⟩
abbrev s_check_length : Stmt := top 24
theorem sc_check_length : FnScope ["value"] ["value"] (defScope s_check_length) := ⟨rfl, rfl, rfl, by decide +kernel, rfl, by decide +kernel, by decide +kernel⟩
abbrev s_check_base : Stmt := top 25
theorem sc_check_base : FnScope ["value"] ["value"] (defScope s_check_base) := ⟨rfl, rfl, rfl, by decide +kernel, rfl, by decide +kernel, by decide +kernel⟩
abbrev s_figures_of : Stmt := top 26
theorem sc_figures_of : FnScope ["length", "base", "count", "power", "eight", "turn"] ["length", "base"] (defScope s_figures_of) := ⟨rfl, rfl, rfl, by decide +kernel, rfl, by decide +kernel, by decide +kernel⟩
abbrev s_common_divisor : Stmt := top 27
theorem sc_common_divisor : FnScope ["one", "other"] ["one", "other"] (defScope s_common_divisor) := ⟨rfl, rfl, rfl, by decide +kernel, rfl, by decide +kernel, by decide +kernel⟩
abbrev s_amount_of : Stmt := top 28
theorem sc_amount_of : FnScope ["word", "amount", "sign"] ["word"] (defScope s_amount_of) := ⟨rfl, rfl, rfl, by decide +kernel, rfl, by decide +kernel, by decide +kernel⟩
abbrev s_told_lengths : Stmt := top 32
theorem sc_told_lengths : FnScope ["stack", "length", "found", "wrap", "size"] ["stack", "length"] (defScope s_told_lengths) := ⟨rfl, rfl, rfl, by decide +kernel, rfl, by decide +kernel, by decide +kernel⟩
abbrev s_first_reach : Stmt := top 33
theorem sc_first_reach : FnScope ["stack", "place", "power", "low", "high", "first", "last", "guess", "near", "middle"] ["stack", "place", "power", "low", "high"] (defScope s_first_reach) := ⟨rfl, rfl, rfl, by decide +kernel, rfl, by decide +kernel, by decide +kernel⟩
abbrev s_changes : Stmt := top 34
theorem sc_changes : FnScope ["stack", "low", "high", "found", "firsts", "lasts", "place", "first", "last", "power"] ["stack", "low", "high"] (defScope s_changes) := ⟨rfl, rfl, rfl, by decide +kernel, rfl, by decide +kernel, by decide +kernel⟩
abbrev s_stretches : Stmt := top 35
theorem sc_stretches : FnScope ["stack", "low", "high", "starts", "start"] ["stack", "low", "high"] (defScope s_stretches) := ⟨rfl, rfl, rfl, by decide +kernel, rfl, by decide +kernel, by decide +kernel⟩
abbrev s_fault_in : Stmt := top 40
theorem sc_fault_in : FnScope ["kind", "numbers", "index", "least", "most"] ["kind", "numbers"] (defScope s_fault_in) := ⟨rfl, rfl, rfl, by decide +kernel, rfl, by decide +kernel, by decide +kernel⟩
abbrev s_begun : Stmt := top 41
theorem sc_begun : FnScope ["length", "whole"] ["length", "whole"] (defScope s_begun) := ⟨rfl, rfl, rfl, by decide +kernel, rfl, by decide +kernel, by decide +kernel⟩
abbrev s_total_of : Stmt := top 42
theorem sc_total_of : FnScope ["length", "base", "figures"] ["length", "base"] (defScope s_total_of) := ⟨rfl, rfl, rfl, by decide +kernel, rfl, by decide +kernel, by decide +kernel⟩
abbrev s_Wrap___init__ : Stmt := inClass (top 43) 0
theorem sc_Wrap___init__ : FnScope ["self", "kind", "numbers", "fault", "number"] ["self", "kind", "numbers"] (defScope s_Wrap___init__) := ⟨rfl, rfl, rfl, by decide +kernel, rfl, by decide +kernel, by decide +kernel⟩
abbrev s_Wrap_grown : Stmt := inClass (top 43) 2
theorem sc_Wrap_grown : FnScope ["self", "length", "base", "first", "last"] ["self", "length", "base"] (defScope s_Wrap_grown) := ⟨rfl, rfl, rfl, by decide +kernel, rfl, by decide +kernel, by decide +kernel⟩
abbrev s_Wrap___eq__ : Stmt := inClass (top 43) 4
theorem sc_Wrap___eq__ : FnScope ["self", "other"] ["self", "other"] (defScope s_Wrap___eq__) := ⟨rfl, rfl, rfl, by decide +kernel, rfl, by decide +kernel, by decide +kernel⟩
abbrev s_Wrap___str__ : Stmt := inClass (top 43) 5
theorem sc_Wrap___str__ : FnScope ["self"] ["self"] (defScope s_Wrap___str__) := ⟨rfl, rfl, rfl, by decide +kernel, rfl, by decide +kernel, by decide +kernel⟩
abbrev s_in_pieces : Stmt := top 44
theorem sc_in_pieces : FnScope ["length", "most", "constant", "base", "size", "rest"] ["length", "most", "constant", "base"] (defScope s_in_pieces) := ⟨rfl, rfl, rfl, by decide +kernel, rfl, by decide +kernel, by decide +kernel⟩
abbrev s_wrap_in : Stmt := top 45
theorem sc_wrap_in : FnScope ["text", "words", "kind", "numbers", "word"] ["text"] (defScope s_wrap_in) := ⟨rfl, rfl, rfl, by decide +kernel, rfl, by decide +kernel, by decide +kernel⟩
abbrev s_check_wrap : Stmt := top 46
theorem sc_check_wrap : FnScope ["value"] ["value"] (defScope s_check_wrap) := ⟨rfl, rfl, rfl, by decide +kernel, rfl, by decide +kernel, by decide +kernel⟩
abbrev s_fineness_of : Stmt := top 48
theorem sc_fineness_of : FnScope ["wraps", "product", "wrap"] ["wraps"] (defScope s_fineness_of) := ⟨rfl, rfl, rfl, by decide +kernel, rfl, by decide +kernel, by decide +kernel⟩
abbrev s_check_wraps : Stmt := top 49
theorem sc_check_wraps : FnScope ["values", "most", "index", "value"] ["values", "most"] (defScope s_check_wraps) := ⟨rfl, rfl, rfl, by decide +kernel, rfl, by decide +kernel, by decide +kernel⟩
abbrev s_Stack___init__ : Stmt := inClass (top 50) 0
theorem sc_Stack___init__ : FnScope ["self", "base", "wraps", "fineness"] ["self", "base", "wraps"] (defScope s_Stack___init__) := ⟨rfl, rfl, rfl, by decide +kernel, rfl, by decide +kernel, by decide +kernel⟩
abbrev s_Stack_read : Stmt := inClass (top 50) 1
theorem sc_Stack_read : FnScope ["text", "stack"] ["text"] (defScope s_Stack_read) := ⟨rfl, rfl, rfl, by decide +kernel, rfl, by decide +kernel, by decide +kernel⟩
abbrev s_Stack_grown : Stmt := inClass (top 50) 2
theorem sc_Stack_grown : FnScope ["self", "length", "wrap"] ["self", "length"] (defScope s_Stack_grown) := ⟨rfl, rfl, rfl, by decide +kernel, rfl, by decide +kernel, by decide +kernel⟩
abbrev s_Stack___eq__ : Stmt := inClass (top 50) 10
theorem sc_Stack___eq__ : FnScope ["self", "other"] ["self", "other"] (defScope s_Stack___eq__) := ⟨rfl, rfl, rfl, by decide +kernel, rfl, by decide +kernel, by decide +kernel⟩
abbrev s_Stack___str__ : Stmt := inClass (top 50) 11
theorem sc_Stack___str__ : FnScope ["self", "wrap"] ["self"] (defScope s_Stack___str__) := ⟨rfl, rfl, rfl, by decide +kernel, rfl, by decide +kernel, by decide +kernel⟩
abbrev s_stack_in : Stmt := top 51
theorem sc_stack_in : FnScope ["text", "rows", "word", "gap", "rest", "base", "wraps", "row"] ["text"] (defScope s_stack_in) := ⟨rfl, rfl, rfl, by decide +kernel, rfl, by decide +kernel, by decide +kernel⟩
abbrev s_check_stack : Stmt := top 52
theorem sc_check_stack : FnScope ["value"] ["value"] (defScope s_check_stack) := ⟨rfl, rfl, rfl, by decide +kernel, rfl, by decide +kernel, by decide +kernel⟩
abbrev s_shared_fineness : Stmt := top 55
theorem sc_shared_fineness : FnScope ["stack", "other_stack"] ["stack", "other_stack"] (defScope s_shared_fineness) := ⟨rfl, rfl, rfl, by decide +kernel, rfl, by decide +kernel, by decide +kernel⟩
abbrev s_check_both : Stmt := top 56
theorem sc_check_both : FnScope ["stack", "other_stack"] ["stack", "other_stack"] (defScope s_check_both) := ⟨rfl, rfl, rfl, by decide +kernel, rfl, by decide +kernel, by decide +kernel⟩
abbrev s_sizes_along : Stmt := top 57
theorem sc_sizes_along : FnScope ["stack", "first", "many", "sizes", "wrap", "added", "size"] ["stack", "first", "many"] (defScope s_sizes_along) := ⟨rfl, rfl, rfl, by decide +kernel, rfl, by decide +kernel, by decide +kernel⟩
abbrev s_leads_along : Stmt := top 58
theorem sc_leads_along : FnScope ["stack", "other_stack", "first", "many", "ours", "theirs", "leads", "size", "other"] ["stack", "other_stack", "first"] (defScope s_leads_along) := ⟨rfl, rfl, rfl, by decide +kernel, rfl, by decide +kernel, by decide +kernel⟩
abbrev s_shared_stretches : Stmt := top 59
theorem sc_shared_stretches : FnScope ["stack", "other_stack", "ours", "theirs", "starts", "first", "last", "start"] ["stack", "other_stack"] (defScope s_shared_stretches) := ⟨rfl, rfl, rfl, by decide +kernel, rfl, by decide +kernel, by decide +kernel⟩
abbrev s_rounds_to_other : Stmt := top 60
theorem sc_rounds_to_other : FnScope ["lead", "gain"] ["lead", "gain"] (defScope s_rounds_to_other) := ⟨rfl, rfl, rfl, by decide +kernel, rfl, by decide +kernel, by decide +kernel⟩
abbrev s_rounds_to_longer : Stmt := top 61
theorem sc_rounds_to_longer : FnScope ["lead", "gain"] ["lead", "gain"] (defScope s_rounds_to_longer) := ⟨rfl, rfl, rfl, by decide +kernel, rfl, by decide +kernel, by decide +kernel⟩
abbrev s_first_along : Stmt := top 62
theorem sc_first_along : FnScope ["stack", "other_stack", "rounds_to", "first", "last", "leads", "gain", "found", "place", "lead", "rounds"] ["stack", "other_stack", "rounds_to"] (defScope s_first_along) := ⟨rfl, rfl, rfl, by decide +kernel, rfl, by decide +kernel, by decide +kernel⟩
abbrev s_first_found : Stmt := top 63
theorem sc_first_found : FnScope ["stack", "other_stack", "rounds_to", "length"] ["stack", "other_stack", "rounds_to"] (defScope s_first_found) := ⟨rfl, rfl, rfl, by decide +kernel, rfl, by decide +kernel, by decide +kernel⟩
abbrev s_first_other : Stmt := top 64
theorem sc_first_other : FnScope ["stack", "other_stack"] ["stack", "other_stack"] (defScope s_first_other) := ⟨rfl, rfl, rfl, by decide +kernel, rfl, by decide +kernel, by decide +kernel⟩
abbrev s_alike : Stmt := top 65
theorem sc_alike : FnScope ["stack", "other_stack"] ["stack", "other_stack"] (defScope s_alike) := ⟨rfl, rfl, rfl, by decide +kernel, rfl, by decide +kernel, by decide +kernel⟩
abbrev s_first_longer : Stmt := top 66
theorem sc_first_longer : FnScope ["stack", "other_stack"] ["stack", "other_stack"] (defScope s_first_longer) := ⟨rfl, rfl, rfl, by decide +kernel, rfl, by decide +kernel, by decide +kernel⟩
abbrev s_never_longer : Stmt := top 67
theorem sc_never_longer : FnScope ["stack", "other_stack"] ["stack", "other_stack"] (defScope s_never_longer) := ⟨rfl, rfl, rfl, by decide +kernel, rfl, by decide +kernel, by decide +kernel⟩
abbrev s_exchangeable : Stmt := top 68
theorem sc_exchangeable : FnScope ["stack", "place"] ["stack"] (defScope s_exchangeable) := ⟨rfl, rfl, rfl, by decide +kernel, rfl, by decide +kernel, by decide +kernel⟩
abbrev s_idle : Stmt := top 69
theorem sc_idle : FnScope ["stack", "place"] ["stack"] (defScope s_idle) := ⟨rfl, rfl, rfl, by decide +kernel, rfl, by decide +kernel, by decide +kernel⟩
abbrev s_L_bowl : Stmt := top 71
theorem sc_L_bowl : FnScope ["_law_script", "_law_k", "_law_kneaded", "_law_entry", "_law_own"] ["_law_script", "_law_k"] (defScope s_L_bowl) := ⟨rfl, rfl, rfl, by decide +kernel, rfl, by decide +kernel, by decide +kernel⟩
abbrev s_L_scoop : Stmt := top 72
theorem sc_L_scoop : FnScope ["_law_bowl_here", "_law_many", "_law_part"] ["_law_bowl_here", "_law_many"] (defScope s_L_scoop) := ⟨rfl, rfl, rfl, by decide +kernel, rfl, by decide +kernel, by decide +kernel⟩
abbrev s_L_one_of : Stmt := top 73
theorem sc_L_one_of : FnScope ["_law_bowl_here", "_law_things"] ["_law_bowl_here", "_law_things"] (defScope s_L_one_of) := ⟨rfl, rfl, rfl, by decide +kernel, rfl, by decide +kernel, by decide +kernel⟩
abbrev s_L_small : Stmt := top 74
theorem sc_L_small : FnScope ["_law_bowl_here", "_law_most"] ["_law_bowl_here", "_law_most"] (defScope s_L_small) := ⟨rfl, rfl, rfl, by decide +kernel, rfl, by decide +kernel, by decide +kernel⟩
abbrev s_L_plan : Stmt := top 75
theorem sc_L_plan : FnScope ["_law_bowl_here", "_law_room", "_law_sort", "_law_part"] ["_law_bowl_here", "_law_room"] (defScope s_L_plan) := ⟨rfl, rfl, rfl, by decide +kernel, rfl, by decide +kernel, by decide +kernel⟩
abbrev s_L_fine : Stmt := top 76
theorem sc_L_fine : FnScope ["_law_plan_here"] ["_law_plan_here"] (defScope s_L_fine) := ⟨rfl, rfl, rfl, by decide +kernel, rfl, by decide +kernel, by decide +kernel⟩
abbrev s_L_root : Stmt := top 77
theorem sc_L_root : FnScope ["_law_bowl_here"] ["_law_bowl_here"] (defScope s_L_root) := ⟨rfl, rfl, rfl, by decide +kernel, rfl, by decide +kernel, by decide +kernel⟩
abbrev s_L_words : Stmt := top 78
theorem sc_L_words : FnScope ["_law_plan_here", "_law_thing"] ["_law_plan_here"] (defScope s_L_words) := ⟨rfl, rfl, rfl, by decide +kernel, rfl, by decide +kernel, by decide +kernel⟩
abbrev s_L_rows : Stmt := top 79
theorem sc_L_rows : FnScope ["_law_root_here", "_law_plans", "_law_plan_here"] ["_law_root_here", "_law_plans"] (defScope s_L_rows) := ⟨rfl, rfl, rfl, by decide +kernel, rfl, by decide +kernel, by decide +kernel⟩
abbrev s_L_stack : Stmt := top 80
theorem sc_L_stack : FnScope ["_law_root_here", "_law_plans"] ["_law_root_here", "_law_plans"] (defScope s_L_stack) := ⟨rfl, rfl, rfl, by decide +kernel, rfl, by decide +kernel, by decide +kernel⟩
abbrev s_L_pile : Stmt := top 81
theorem sc_L_pile : FnScope ["_law_bowl_here", "_law_root_here", "_law_most", "_law_room", "_law_found", "_law_heads", "_law_k", "_law_plan_here"] ["_law_bowl_here", "_law_root_here", "_law_most", "_law_room"] (defScope s_L_pile) := ⟨rfl, rfl, rfl, by decide +kernel, rfl, by decide +kernel, by decide +kernel⟩
abbrev s_L_fineness : Stmt := top 82
theorem sc_L_fineness : FnScope ["_law_plans", "_law_product", "_law_plan_here"] ["_law_plans"] (defScope s_L_fineness) := ⟨rfl, rfl, rfl, by decide +kernel, rfl, by decide +kernel, by decide +kernel⟩
abbrev s_L_shared : Stmt := top 83
theorem sc_L_shared : FnScope ["_law_one", "_law_two_here", "_law_great", "_law_small_here"] ["_law_one", "_law_two_here"] (defScope s_L_shared) := ⟨rfl, rfl, rfl, by decide +kernel, rfl, by decide +kernel, by decide +kernel⟩
abbrev s_L_outcome : Stmt := top 84
theorem sc_L_outcome : FnScope ["_law_ask", "_law_had", "e", "_law_bases_right"] ["_law_ask"] (defScope s_L_outcome) := ⟨rfl, rfl, rfl, by decide +kernel, rfl, by decide +kernel, by decide +kernel⟩
abbrev s_L_four : Stmt := top 85
theorem sc_L_four : FnScope ["_law_one", "_law_two_here", "_law_answers"] ["_law_one", "_law_two_here"] (defScope s_L_four) := ⟨rfl, rfl, rfl, by decide +kernel, rfl, by decide +kernel, by decide +kernel⟩
abbrev s_L_two : Stmt := top 86
theorem sc_L_two : FnScope ["_law_bowl_here", "_law_part", "_law_other"] ["_law_bowl_here"] (defScope s_L_two) := ⟨rfl, rfl, rfl, by decide +kernel, rfl, by decide +kernel, by decide +kernel⟩
abbrev s_L_right : Stmt := top 87
theorem sc_L_right : FnScope ["_law_bowl_here", "_law_root_here", "_law_made", "_law_some", "_law_plans", "_law_mate", "_law_answers", "_law_bad", "_law_odd", "_law_answer"] ["_law_bowl_here"] (defScope s_L_right) := ⟨rfl, rfl, rfl, by decide +kernel, rfl, by decide +kernel, by decide +kernel⟩
abbrev s_law : Stmt := top 88
theorem sc_law : FnScope ["_law_script", "_law_same", "_law_told", "_law_sixty", "_law_k"] ["_law_script"] (defScope s_law) := ⟨rfl, rfl, rfl, by decide +kernel, rfl, by decide +kernel, by decide +kernel⟩
def notCs : List (Str × Str) := [("NotAStack", "Excess"), ("TooFine", "Misfit")]
def outCs : List Cl1 := [⟨"NotAStack", "value", "Misfit", "ValueError"⟩, ⟨"TooFine", "limit", "Excess", "ArithmeticError"⟩]
structure Tx (w : World) (K : PySem.W.Frag) (mg : Str → Option Value) : Prop where
  d_is_integer : DefAt K mg "is_integer" s_is_integer
  d_is_between : DefAt K mg "is_between" s_is_between
  d_check_length : DefAt K mg "check_length" s_check_length
  d_check_base : DefAt K mg "check_base" s_check_base
  d_figures_of : DefAt K mg "figures_of" s_figures_of
  d_common_divisor : DefAt K mg "common_divisor" s_common_divisor
  d_amount_of : DefAt K mg "amount_of" s_amount_of
  d_told_lengths : DefAt K mg "told_lengths" s_told_lengths
  d_first_reach : DefAt K mg "first_reach" s_first_reach
  d_changes : DefAt K mg "changes" s_changes
  d_stretches : DefAt K mg "stretches" s_stretches
  d_fault_in : DefAt K mg "fault_in" s_fault_in
  d_begun : DefAt K mg "begun" s_begun
  d_total_of : DefAt K mg "total_of" s_total_of
  d_in_pieces : DefAt K mg "in_pieces" s_in_pieces
  d_wrap_in : DefAt K mg "wrap_in" s_wrap_in
  d_check_wrap : DefAt K mg "check_wrap" s_check_wrap
  d_fineness_of : DefAt K mg "fineness_of" s_fineness_of
  d_check_wraps : DefAt K mg "check_wraps" s_check_wraps
  d_stack_in : DefAt K mg "stack_in" s_stack_in
  d_check_stack : DefAt K mg "check_stack" s_check_stack
  d_shared_fineness : DefAt K mg "shared_fineness" s_shared_fineness
  d_check_both : DefAt K mg "check_both" s_check_both
  d_sizes_along : DefAt K mg "sizes_along" s_sizes_along
  d_leads_along : DefAt K mg "leads_along" s_leads_along
  d_shared_stretches : DefAt K mg "shared_stretches" s_shared_stretches
  d_rounds_to_other : DefAt K mg "rounds_to_other" s_rounds_to_other
  d_rounds_to_longer : DefAt K mg "rounds_to_longer" s_rounds_to_longer
  d_first_along : DefAt K mg "first_along" s_first_along
  d_first_found : DefAt K mg "first_found" s_first_found
  d_first_other : DefAt K mg "first_other" s_first_other
  d_alike : DefAt K mg "alike" s_alike
  d_first_longer : DefAt K mg "first_longer" s_first_longer
  d_never_longer : DefAt K mg "never_longer" s_never_longer
  d_exchangeable : DefAt K mg "exchangeable" s_exchangeable
  d_idle : DefAt K mg "idle" s_idle
  d_L_bowl : DefAt K mg "_law_bowl" s_L_bowl
  d_L_scoop : DefAt K mg "_law_scoop" s_L_scoop
  d_L_one_of : DefAt K mg "_law_one_of" s_L_one_of
  d_L_small : DefAt K mg "_law_small" s_L_small
  d_L_plan : DefAt K mg "_law_plan" s_L_plan
  d_L_fine : DefAt K mg "_law_fine" s_L_fine
  d_L_root : DefAt K mg "_law_root" s_L_root
  d_L_words : DefAt K mg "_law_words" s_L_words
  d_L_rows : DefAt K mg "_law_rows" s_L_rows
  d_L_stack : DefAt K mg "_law_stack" s_L_stack
  d_L_pile : DefAt K mg "_law_pile" s_L_pile
  d_L_fineness : DefAt K mg "_law_fineness" s_L_fineness
  d_L_shared : DefAt K mg "_law_shared" s_L_shared
  d_L_outcome : DefAt K mg "_law_outcome" s_L_outcome
  d_L_four : DefAt K mg "_law_four" s_L_four
  d_L_two : DefAt K mg "_law_two" s_L_two
  d_L_right : DefAt K mg "_law_right" s_L_right
  d_law : DefAt K mg "law" s_law
  b_ArithmeticError : mg "ArithmeticError" = none
  b_ValueError : mg "ValueError" = none
  b_abs : mg "abs" = none
  b_all : mg "all" = none
  b_divmod : mg "divmod" = none
  b_enumerate : mg "enumerate" = none
  b_int : mg "int" = none
  b_isinstance : mg "isinstance" = none
  b_len : mg "len" = none
  b_list : mg "list" = none
  b_max : mg "max" = none
  b_min : mg "min" = none
  b_range : mg "range" = none
  b_repr : mg "repr" = none
  b_sorted : mg "sorted" = none
  b_str : mg "str" = none
  b_tuple : mg "tuple" = none
  b_zip : mg "zip" = none
  c_MOST_LENGTH : ∃ u, mg "MOST_LENGTH" = some (.int 1000000000000000000000000000000000000000000000000000000000000 u)
  c_MOST_WRAPS : ∃ u, mg "MOST_WRAPS" = some (.int 6 u)
  c_MOST_FINENESS : ∃ u, mg "MOST_FINENESS" = some (.int 120 u)
  c_MOST_CONSTANT : ∃ u, mg "MOST_CONSTANT" = some (.int 1000 u)
  c_LEAST_BASE : ∃ u, mg "LEAST_BASE" = some (.int 2 u)
  c_MOST_BASE : ∃ u, mg "MOST_BASE" = some (.int 256 u)
  c_LAST : ∃ u, mg "LAST" = some (.int 999999999999999999999999999999999999999999999999999999999999 u)
  c_NEAR_regimes : ∃ u, mg "NEAR_regimes" = some (.int 2048 u)
  c_MOST_PIECE : ∃ u, mg "MOST_PIECE" = some (.int 60 u)
  c_MOST_CODE : ∃ u, mg "MOST_CODE" = some (.int 120 u)
  c_NEAR_comparing : ∃ u, mg "NEAR_comparing" = some (.int 48 u)
  c_TENS : ∃ u, mg "TENS" = some (.str "0123456789" u)
  k_Wrap : mg "Wrap" = some (.ref (He.ga K "Wrap"))
  cl_Wrap : Cls K (He.ga K "Wrap")
  mk_Wrap : Mk K (He.ga K "Wrap") (He.ma K (He.ga K "Wrap") "__init__")
  is_Wrap : IsiK K (He.ga K "Wrap")
  na_Wrap_kind : NoAttr K (He.ga K "Wrap") "kind"
  na_Wrap_numbers : NoAttr K (He.ga K "Wrap") "numbers"
  na_Wrap_words : NoAttr K (He.ga K "Wrap") "words"
  me_Wrap___init__ : Meth K (He.ga K "Wrap") "__init__" (He.ma K (He.ga K "Wrap") "__init__")
  dm_Wrap___init__ : DefAtM K "Wrap" "__init__" "Wrap.__init__" s_Wrap___init__
  me_Wrap_grown : Meth K (He.ga K "Wrap") "grown" (He.ma K (He.ga K "Wrap") "grown")
  dm_Wrap_grown : DefAtM K "Wrap" "grown" "Wrap.grown" s_Wrap_grown
  me_Wrap___eq__ : Meth K (He.ga K "Wrap") "__eq__" (He.ma K (He.ga K "Wrap") "__eq__")
  dm_Wrap___eq__ : DefAtM K "Wrap" "__eq__" "Wrap.__eq__" s_Wrap___eq__
  me_Wrap___str__ : Meth K (He.ga K "Wrap") "__str__" (He.ma K (He.ga K "Wrap") "__str__")
  dm_Wrap___str__ : DefAtM K "Wrap" "__str__" "Wrap.__str__" s_Wrap___str__
  k_Stack : mg "Stack" = some (.ref (He.ga K "Stack"))
  cl_Stack : Cls K (He.ga K "Stack")
  mk_Stack : Mk K (He.ga K "Stack") (He.ma K (He.ga K "Stack") "__init__")
  is_Stack : IsiK K (He.ga K "Stack")
  na_Stack_base : NoAttr K (He.ga K "Stack") "base"
  na_Stack_wraps : NoAttr K (He.ga K "Stack") "wraps"
  na_Stack_fineness : NoAttr K (He.ga K "Stack") "fineness"
  me_Stack___init__ : Meth K (He.ga K "Stack") "__init__" (He.ma K (He.ga K "Stack") "__init__")
  dm_Stack___init__ : DefAtM K "Stack" "__init__" "Stack.__init__" s_Stack___init__
  me_Stack_grown : Meth K (He.ga K "Stack") "grown" (He.ma K (He.ga K "Stack") "grown")
  dm_Stack_grown : DefAtM K "Stack" "grown" "Stack.grown" s_Stack_grown
  me_Stack___str__ : Meth K (He.ga K "Stack") "__str__" (He.ma K (He.ga K "Stack") "__str__")
  dm_Stack___str__ : DefAtM K "Stack" "__str__" "Stack.__str__" s_Stack___str__
  me_Stack___eq__ : Meth K (He.ga K "Stack") "__eq__" (He.ma K (He.ga K "Stack") "__eq__")
  dm_Stack___eq__ : DefAtM K "Stack" "__eq__" "Stack.__eq__" s_Stack___eq__
  st_Stack : StrK K (He.ga K "Stack")
  st_Wrap : StrK K (He.ga K "Wrap")
  ne_Stack_Wrap : He.ga K "Stack" ≠ He.ga K "Wrap"
  er_InvalidNumber : ErrC K (He.ga K "InvalidNumber") (He.ma K (He.ga K "InvalidNumber") "__init__") "value"
  dm_InvalidNumber___init__ : DefAtM K "InvalidNumber" "__init__" "InvalidNumber.__init__" s_InvalidNumber___init__
  er_NotAStack : ErrC K (He.ga K "NotAStack") (He.ma K (He.ga K "NotAStack") "__init__") "value"
  dm_NotAStack___init__ : DefAtM K "NotAStack" "__init__" "NotAStack.__init__" s_NotAStack___init__
  er_TooFine : ErrC K (He.ga K "TooFine") (He.ma K (He.ga K "TooFine") "__init__") "limit"
  dm_TooFine___init__ : DefAtM K "TooFine" "__init__" "TooFine.__init__" s_TooFine___init__
  k_InvalidNumber : mg "InvalidNumber" = some (.ref (He.ga K "InvalidNumber"))
  k_NotAStack : mg "NotAStack" = some (.ref (He.ga K "NotAStack"))
  k_TooFine : mg "TooFine" = some (.ref (He.ga K "TooFine"))
  k_Excess : mg "Excess" = some (.ref (He.ga K "Excess"))
  k_Misfit : mg "Misfit" = some (.ref (He.ga K "Misfit"))
  ot : OutTab K outCs
  nt : NotTab K notCs
  nt_L_four_L_right : (He.cT K ("_law_four", none)).2 ≠ (He.cT K ("_law_right", none)).2
  nt_L_four_law : (He.cT K ("_law_four", none)).2 ≠ (He.cT K ("law", none)).2
  nt_L_right_law : (He.cT K ("_law_right", none)).2 ≠ (He.cT K ("law", none)).2
  kt : KitTab K ["Wrap", "Stack"]
  sm_Stack_read : SMet K (He.ga K "Stack") "read" (He.ma K (He.ga K "Stack") "read") (sA K "Stack" "read")
  ds_Stack_read : DefAtS K "Stack" "read" "Stack.read" s_Stack_read
  dt_L_four : DefC K mg "_law_four" s_L_four
  dt_L_right : DefC K mg "_law_right" s_L_right
  dt_law : DefC K mg "law" s_law
  k_RANGES : mg "RANGES" = some (.ref (He.ga K "RANGES"))
  kd : ∃ es n, KDict K w (He.ga K "RANGES") es n
  rg : ∀ a : Wr, Rng K (He.ga K "RANGES") a.kind a.rng
  rn : ∀ z : Str, z ∉ kinds7 → PySem.W.nsIn K (He.ga K "RANGES") z = some none
def tfL : List He.Defn := [("_law_four", none), ("_law_right", none), ("law", none)]
def tabsOf (K : PySem.W.Frag) : List (Addr × Str) := [((He.cT K ("_law_four", none)).2, ("_law_four" : Str) ++ ".<locals>." ++ "<lambda>"), ((He.cT K ("_law_right", none)).2, ("_law_right" : Str) ++ ".<locals>." ++ "<lambda>"), ((He.cT K ("law", none)).2, ("law" : Str) ++ ".<locals>." ++ "<lambda>")]
theorem tabs_u_L_four {w : World} {K : PySem.W.Frag} {mg : Str → Option Value} (T : Tx w K mg) : ∀ p ∈ tabsOf K, p.1 = (He.cT K ("_law_four", none)).2 → p.2 = ("_law_four" : Str) ++ ".<locals>." ++ "<lambda>" := by
  intro p hp e
  simp only [tabsOf, List.mem_cons, List.not_mem_nil, or_false] at hp
  rcases hp with rfl | rfl | rfl
  · rfl
  · exact absurd e.symm T.nt_L_four_L_right
  · exact absurd e.symm T.nt_L_four_law
theorem tabs_u_L_right {w : World} {K : PySem.W.Frag} {mg : Str → Option Value} (T : Tx w K mg) : ∀ p ∈ tabsOf K, p.1 = (He.cT K ("_law_right", none)).2 → p.2 = ("_law_right" : Str) ++ ".<locals>." ++ "<lambda>" := by
  intro p hp e
  simp only [tabsOf, List.mem_cons, List.not_mem_nil, or_false] at hp
  rcases hp with rfl | rfl | rfl
  · exact absurd e T.nt_L_four_L_right
  · rfl
  · exact absurd e.symm T.nt_L_right_law
theorem tabs_u_law {w : World} {K : PySem.W.Frag} {mg : Str → Option Value} (T : Tx w K mg) : ∀ p ∈ tabsOf K, p.1 = (He.cT K ("law", none)).2 → p.2 = ("law" : Str) ++ ".<locals>." ++ "<lambda>" := by
  intro p hp e
  simp only [tabsOf, List.mem_cons, List.not_mem_nil, or_false] at hp
  rcases hp with rfl | rfl | rfl
  · exact absurd e T.nt_L_four_law
  · exact absurd e T.nt_L_right_law
  · rfl
abbrev UT (K : PySem.W.Frag) (mg : Str → Option Value) (base : Heap) : Prop := ∀ p ∈ tfL.map (He.cT K), LamX.TabB base mg p.1 p.2
theorem tabs_start {K : PySem.W.Frag} {H : Hp} (h : ∀ p ∈ tfL.map (He.cT K), H p.2 = some (.tbl #[])) : LamX.Tabs (tabsOf K) H := by
  intro p hp
  have key : ∃ d ∈ tfL, (He.cT K d).2 = p.1 := by
    simp only [tabsOf, List.mem_cons, List.not_mem_nil, or_false] at hp
    rcases hp with rfl | rfl | rfl
    · exact ⟨_, by simp [tfL], rfl⟩
    · exact ⟨_, by simp [tfL], rfl⟩
    · exact ⟨_, by simp [tfL], rfl⟩
  obtain ⟨d, hd, e⟩ := key
  exact .nil (by rw [← e]; exact h _ (List.mem_map.mpr ⟨d, hd, rfl⟩))
section
variable {P : Program} {w : World} {K : PySem.W.Frag} {mg : Str → Option Value} {base : Heap}
theorem ok_err_InvalidNumber (T : Tx w K mg) : PromE P w K mg base 1 "InvalidNumber" "value" :=
  PromE.of T.er_InvalidNumber T.k_InvalidNumber T.dm_InvalidNumber___init__ sc_InvalidNumber___init__ rfl rfl rfl (fun _ _ _ _ _ _ us hl => match us, hl with | [_, _], _ => rfl)
theorem ok_err_NotAStack (T : Tx w K mg) : PromE P w K mg base 1 "NotAStack" "value" :=
  PromE.of T.er_NotAStack T.k_NotAStack T.dm_NotAStack___init__ sc_NotAStack___init__ rfl rfl rfl (fun _ _ _ _ _ _ us hl => match us, hl with | [_, _], _ => rfl)
theorem ok_err_TooFine (T : Tx w K mg) : PromE P w K mg base 1 "TooFine" "limit" :=
  PromE.of T.er_TooFine T.k_TooFine T.dm_TooFine___init__ sc_TooFine___init__ rfl rfl rfl (fun _ _ _ _ _ _ us hl => match us, hl with | [_, _], _ => rfl)
end
def dd_is_integer : He.DefD := ⟨("is_integer", none), "is_integer", "is_integer", defArgs s_is_integer, defBody s_is_integer, defScope s_is_integer, [], []⟩
def dd_is_between : He.DefD := ⟨("is_between", none), "is_between", "is_between", defArgs s_is_between, defBody s_is_between, defScope s_is_between, [], []⟩
def dd_check_length : He.DefD := ⟨("check_length", none), "check_length", "check_length", defArgs s_check_length, defBody s_check_length, defScope s_check_length, [], []⟩
def dd_check_base : He.DefD := ⟨("check_base", none), "check_base", "check_base", defArgs s_check_base, defBody s_check_base, defScope s_check_base, [], []⟩
def dd_figures_of : He.DefD := ⟨("figures_of", none), "figures_of", "figures_of", defArgs s_figures_of, defBody s_figures_of, defScope s_figures_of, [], []⟩
def dd_common_divisor : He.DefD := ⟨("common_divisor", none), "common_divisor", "common_divisor", defArgs s_common_divisor, defBody s_common_divisor, defScope s_common_divisor, [], []⟩
def dd_amount_of : He.DefD := ⟨("amount_of", none), "amount_of", "amount_of", defArgs s_amount_of, defBody s_amount_of, defScope s_amount_of, [], []⟩
def dd_told_lengths : He.DefD := ⟨("told_lengths", none), "told_lengths", "told_lengths", defArgs s_told_lengths, defBody s_told_lengths, defScope s_told_lengths, [], []⟩
def dd_first_reach : He.DefD := ⟨("first_reach", none), "first_reach", "first_reach", defArgs s_first_reach, defBody s_first_reach, defScope s_first_reach, [], []⟩
def dd_changes : He.DefD := ⟨("changes", none), "changes", "changes", defArgs s_changes, defBody s_changes, defScope s_changes, [], []⟩
def dd_stretches : He.DefD := ⟨("stretches", none), "stretches", "stretches", defArgs s_stretches, defBody s_stretches, defScope s_stretches, [], []⟩
def dd_fault_in : He.DefD := ⟨("fault_in", none), "fault_in", "fault_in", defArgs s_fault_in, defBody s_fault_in, defScope s_fault_in, [], []⟩
def dd_begun : He.DefD := ⟨("begun", none), "begun", "begun", defArgs s_begun, defBody s_begun, defScope s_begun, [], []⟩
def dd_total_of : He.DefD := ⟨("total_of", none), "total_of", "total_of", defArgs s_total_of, defBody s_total_of, defScope s_total_of, [], []⟩
def dd_in_pieces : He.DefD := ⟨("in_pieces", none), "in_pieces", "in_pieces", defArgs s_in_pieces, defBody s_in_pieces, defScope s_in_pieces, [], []⟩
def dd_wrap_in : He.DefD := ⟨("wrap_in", none), "wrap_in", "wrap_in", defArgs s_wrap_in, defBody s_wrap_in, defScope s_wrap_in, [], []⟩
def dd_check_wrap : He.DefD := ⟨("check_wrap", none), "check_wrap", "check_wrap", defArgs s_check_wrap, defBody s_check_wrap, defScope s_check_wrap, [], []⟩
def dd_fineness_of : He.DefD := ⟨("fineness_of", none), "fineness_of", "fineness_of", defArgs s_fineness_of, defBody s_fineness_of, defScope s_fineness_of, [], []⟩
def dd_check_wraps : He.DefD := ⟨("check_wraps", none), "check_wraps", "check_wraps", defArgs s_check_wraps, defBody s_check_wraps, defScope s_check_wraps, [], []⟩
def dd_stack_in : He.DefD := ⟨("stack_in", none), "stack_in", "stack_in", defArgs s_stack_in, defBody s_stack_in, defScope s_stack_in, [], []⟩
def dd_check_stack : He.DefD := ⟨("check_stack", none), "check_stack", "check_stack", defArgs s_check_stack, defBody s_check_stack, defScope s_check_stack, [], []⟩
def dd_shared_fineness : He.DefD := ⟨("shared_fineness", none), "shared_fineness", "shared_fineness", defArgs s_shared_fineness, defBody s_shared_fineness, defScope s_shared_fineness, [], []⟩
def dd_check_both : He.DefD := ⟨("check_both", none), "check_both", "check_both", defArgs s_check_both, defBody s_check_both, defScope s_check_both, [], []⟩
def dd_sizes_along : He.DefD := ⟨("sizes_along", none), "sizes_along", "sizes_along", defArgs s_sizes_along, defBody s_sizes_along, defScope s_sizes_along, [], []⟩
def dd_leads_along : He.DefD := ⟨("leads_along", none), "leads_along", "leads_along", defArgs s_leads_along, defBody s_leads_along, defScope s_leads_along, [], []⟩
def dd_shared_stretches : He.DefD := ⟨("shared_stretches", none), "shared_stretches", "shared_stretches", defArgs s_shared_stretches, defBody s_shared_stretches, defScope s_shared_stretches, [], []⟩
def dd_rounds_to_other : He.DefD := ⟨("rounds_to_other", none), "rounds_to_other", "rounds_to_other", defArgs s_rounds_to_other, defBody s_rounds_to_other, defScope s_rounds_to_other, [], []⟩
def dd_rounds_to_longer : He.DefD := ⟨("rounds_to_longer", none), "rounds_to_longer", "rounds_to_longer", defArgs s_rounds_to_longer, defBody s_rounds_to_longer, defScope s_rounds_to_longer, [], []⟩
def dd_first_along : He.DefD := ⟨("first_along", none), "first_along", "first_along", defArgs s_first_along, defBody s_first_along, defScope s_first_along, [], []⟩
def dd_first_found : He.DefD := ⟨("first_found", none), "first_found", "first_found", defArgs s_first_found, defBody s_first_found, defScope s_first_found, [], []⟩
def dd_first_other : He.DefD := ⟨("first_other", none), "first_other", "first_other", defArgs s_first_other, defBody s_first_other, defScope s_first_other, [], []⟩
def dd_alike : He.DefD := ⟨("alike", none), "alike", "alike", defArgs s_alike, defBody s_alike, defScope s_alike, [], []⟩
def dd_first_longer : He.DefD := ⟨("first_longer", none), "first_longer", "first_longer", defArgs s_first_longer, defBody s_first_longer, defScope s_first_longer, [], []⟩
def dd_never_longer : He.DefD := ⟨("never_longer", none), "never_longer", "never_longer", defArgs s_never_longer, defBody s_never_longer, defScope s_never_longer, [], []⟩
def dd_exchangeable : He.DefD := ⟨("exchangeable", none), "exchangeable", "exchangeable", defArgs s_exchangeable, defBody s_exchangeable, defScope s_exchangeable, [], []⟩
def dd_idle : He.DefD := ⟨("idle", none), "idle", "idle", defArgs s_idle, defBody s_idle, defScope s_idle, [], []⟩
def dd_L_bowl : He.DefD := ⟨("_law_bowl", none), "_law_bowl", "_law_bowl", defArgs s_L_bowl, defBody s_L_bowl, defScope s_L_bowl, [], []⟩
def dd_L_scoop : He.DefD := ⟨("_law_scoop", none), "_law_scoop", "_law_scoop", defArgs s_L_scoop, defBody s_L_scoop, defScope s_L_scoop, [], []⟩
def dd_L_one_of : He.DefD := ⟨("_law_one_of", none), "_law_one_of", "_law_one_of", defArgs s_L_one_of, defBody s_L_one_of, defScope s_L_one_of, [], []⟩
def dd_L_small : He.DefD := ⟨("_law_small", none), "_law_small", "_law_small", defArgs s_L_small, defBody s_L_small, defScope s_L_small, [], []⟩
def dd_L_plan : He.DefD := ⟨("_law_plan", none), "_law_plan", "_law_plan", defArgs s_L_plan, defBody s_L_plan, defScope s_L_plan, [], []⟩
def dd_L_fine : He.DefD := ⟨("_law_fine", none), "_law_fine", "_law_fine", defArgs s_L_fine, defBody s_L_fine, defScope s_L_fine, [], []⟩
def dd_L_root : He.DefD := ⟨("_law_root", none), "_law_root", "_law_root", defArgs s_L_root, defBody s_L_root, defScope s_L_root, [], []⟩
def dd_L_words : He.DefD := ⟨("_law_words", none), "_law_words", "_law_words", defArgs s_L_words, defBody s_L_words, defScope s_L_words, [], []⟩
def dd_L_rows : He.DefD := ⟨("_law_rows", none), "_law_rows", "_law_rows", defArgs s_L_rows, defBody s_L_rows, defScope s_L_rows, [], []⟩
def dd_L_stack : He.DefD := ⟨("_law_stack", none), "_law_stack", "_law_stack", defArgs s_L_stack, defBody s_L_stack, defScope s_L_stack, [], []⟩
def dd_L_pile : He.DefD := ⟨("_law_pile", none), "_law_pile", "_law_pile", defArgs s_L_pile, defBody s_L_pile, defScope s_L_pile, [], []⟩
def dd_L_fineness : He.DefD := ⟨("_law_fineness", none), "_law_fineness", "_law_fineness", defArgs s_L_fineness, defBody s_L_fineness, defScope s_L_fineness, [], []⟩
def dd_L_shared : He.DefD := ⟨("_law_shared", none), "_law_shared", "_law_shared", defArgs s_L_shared, defBody s_L_shared, defScope s_L_shared, [], []⟩
def dd_L_outcome : He.DefD := ⟨("_law_outcome", none), "_law_outcome", "_law_outcome", defArgs s_L_outcome, defBody s_L_outcome, defScope s_L_outcome, [], []⟩
def dd_L_four : He.DefD := ⟨("_law_four", none), "_law_four", "_law_four", defArgs s_L_four, defBody s_L_four, defScope s_L_four, [], []⟩
def dd_L_two : He.DefD := ⟨("_law_two", none), "_law_two", "_law_two", defArgs s_L_two, defBody s_L_two, defScope s_L_two, [], []⟩
def dd_L_right : He.DefD := ⟨("_law_right", none), "_law_right", "_law_right", defArgs s_L_right, defBody s_L_right, defScope s_L_right, [], []⟩
def dd_law : He.DefD := ⟨("law", none), "law", "law", defArgs s_law, defBody s_law, defScope s_law, [], []⟩
def dd_Wrap___init__ : He.DefD := ⟨("Wrap", some "__init__"), "__init__", "Wrap.__init__", defArgs s_Wrap___init__, defBody s_Wrap___init__, defScope s_Wrap___init__, [], []⟩
def dd_Wrap_grown : He.DefD := ⟨("Wrap", some "grown"), "grown", "Wrap.grown", defArgs s_Wrap_grown, defBody s_Wrap_grown, defScope s_Wrap_grown, [], []⟩
def dd_Wrap___eq__ : He.DefD := ⟨("Wrap", some "__eq__"), "__eq__", "Wrap.__eq__", defArgs s_Wrap___eq__, defBody s_Wrap___eq__, defScope s_Wrap___eq__, [], []⟩
def dd_Wrap___str__ : He.DefD := ⟨("Wrap", some "__str__"), "__str__", "Wrap.__str__", defArgs s_Wrap___str__, defBody s_Wrap___str__, defScope s_Wrap___str__, [], []⟩
def dd_Stack___init__ : He.DefD := ⟨("Stack", some "__init__"), "__init__", "Stack.__init__", defArgs s_Stack___init__, defBody s_Stack___init__, defScope s_Stack___init__, [], []⟩
def dd_Stack_grown : He.DefD := ⟨("Stack", some "grown"), "grown", "Stack.grown", defArgs s_Stack_grown, defBody s_Stack_grown, defScope s_Stack_grown, [], []⟩
def dd_Stack___str__ : He.DefD := ⟨("Stack", some "__str__"), "__str__", "Stack.__str__", defArgs s_Stack___str__, defBody s_Stack___str__, defScope s_Stack___str__, [], []⟩
def dd_Stack___eq__ : He.DefD := ⟨("Stack", some "__eq__"), "__eq__", "Stack.__eq__", defArgs s_Stack___eq__, defBody s_Stack___eq__, defScope s_Stack___eq__, [], []⟩
def dd_InvalidNumber___init__ : He.DefD := ⟨("InvalidNumber", some "__init__"), "__init__", "InvalidNumber.__init__", defArgs s_InvalidNumber___init__, defBody s_InvalidNumber___init__, defScope s_InvalidNumber___init__, [], []⟩
def dd_NotAStack___init__ : He.DefD := ⟨("NotAStack", some "__init__"), "__init__", "NotAStack.__init__", defArgs s_NotAStack___init__, defBody s_NotAStack___init__, defScope s_NotAStack___init__, [], []⟩
def dd_TooFine___init__ : He.DefD := ⟨("TooFine", some "__init__"), "__init__", "TooFine.__init__", defArgs s_TooFine___init__, defBody s_TooFine___init__, defScope s_TooFine___init__, [], []⟩
def dd_Stack_read : He5.DefA := { at_ := fun K => sA K "Stack" "read", name := "read", qual := "Stack.read", params := defArgs s_Stack_read, body := defBody s_Stack_read, scope := defScope s_Stack_read }
def smL : List He5.DefA := [dd_Stack_read]
def fnL : List He.DefD := [dd_is_integer, dd_is_between, dd_check_length, dd_check_base, dd_figures_of, dd_common_divisor, dd_amount_of, dd_told_lengths, dd_first_reach, dd_changes, dd_stretches, dd_fault_in, dd_begun, dd_total_of, dd_in_pieces, dd_wrap_in, dd_check_wrap, dd_fineness_of, dd_check_wraps, dd_stack_in, dd_check_stack, dd_shared_fineness, dd_check_both, dd_sizes_along, dd_leads_along, dd_shared_stretches, dd_rounds_to_other, dd_rounds_to_longer, dd_first_along, dd_first_found, dd_first_other, dd_alike, dd_first_longer, dd_never_longer, dd_exchangeable, dd_idle, dd_L_bowl, dd_L_scoop, dd_L_one_of, dd_L_small, dd_L_plan, dd_L_fine, dd_L_root, dd_L_words, dd_L_rows, dd_L_stack, dd_L_pile, dd_L_fineness, dd_L_shared, dd_L_outcome, dd_L_four, dd_L_two, dd_L_right, dd_law, dd_Wrap___init__, dd_Wrap_grown, dd_Wrap___eq__, dd_Wrap___str__, dd_Stack___init__, dd_Stack_grown, dd_Stack___str__, dd_Stack___eq__, dd_InvalidNumber___init__, dd_NotAStack___init__, dd_TooFine___init__]
def faL : List He.Fa := [.glo "is_integer", .glo "is_between", .glo "check_length", .glo "check_base", .glo "figures_of", .glo "common_divisor", .glo "amount_of", .glo "told_lengths", .glo "first_reach", .glo "changes", .glo "stretches", .glo "fault_in", .glo "begun", .glo "total_of", .glo "in_pieces", .glo "wrap_in", .glo "check_wrap", .glo "fineness_of", .glo "check_wraps", .glo "stack_in", .glo "check_stack", .glo "shared_fineness", .glo "check_both", .glo "sizes_along", .glo "leads_along", .glo "shared_stretches", .glo "rounds_to_other", .glo "rounds_to_longer", .glo "first_along", .glo "first_found", .glo "first_other", .glo "alike", .glo "first_longer", .glo "never_longer", .glo "exchangeable", .glo "idle", .glo "_law_bowl", .glo "_law_scoop", .glo "_law_one_of", .glo "_law_small", .glo "_law_plan", .glo "_law_fine", .glo "_law_root", .glo "_law_words", .glo "_law_rows", .glo "_law_stack", .glo "_law_pile", .glo "_law_fineness", .glo "_law_shared", .glo "_law_outcome", .glo "_law_four", .glo "_law_two", .glo "_law_right", .glo "law", .free "ArithmeticError", .free "ValueError", .free "abs", .free "all", .free "divmod", .free "enumerate", .free "int", .free "isinstance", .free "len", .free "list", .free "max", .free "min", .free "range", .free "repr", .free "sorted", .free "str", .free "tuple", .free "zip", .int "MOST_LENGTH" 1000000000000000000000000000000000000000000000000000000000000, .int "MOST_WRAPS" 6, .int "MOST_FINENESS" 120, .int "MOST_CONSTANT" 1000, .int "LEAST_BASE" 2, .int "MOST_BASE" 256, .int "LAST" 999999999999999999999999999999999999999999999999999999999999, .int "NEAR_regimes" 2048, .int "MOST_PIECE" 60, .int "MOST_CODE" 120, .int "NEAR_comparing" 48, .str "TENS" "0123456789", .glo "Wrap", .cls "Wrap", .mkr "Wrap", .noat "Wrap" "kind", .noat "Wrap" "numbers", .noat "Wrap" "words", .meth "Wrap" "__init__", .meth "Wrap" "grown", .meth "Wrap" "__eq__", .meth "Wrap" "__str__", .glo "Stack", .cls "Stack", .mkr "Stack", .noat "Stack" "base", .noat "Stack" "wraps", .noat "Stack" "fineness", .meth "Stack" "__init__", .meth "Stack" "grown", .meth "Stack" "__str__", .meth "Stack" "__eq__", .glo "InvalidNumber", .glo "NotAStack", .glo "TooFine", .glo "Excess", .glo "Misfit", .glo "RANGES"]
def loose0 : List Str := ["is_integer", "is_between", "check_length", "check_base", "figures_of", "common_divisor", "amount_of", "told_lengths", "first_reach", "changes", "stretches", "fault_in", "begun", "total_of", "in_pieces", "wrap_in", "check_wrap", "fineness_of", "check_wraps", "stack_in", "check_stack", "shared_fineness", "check_both", "sizes_along", "leads_along", "shared_stretches", "rounds_to_other", "rounds_to_longer", "first_along", "first_found"]
def loose1 : List Str := ["first_other", "alike", "first_longer", "never_longer", "exchangeable", "idle", "_law_bowl", "_law_scoop", "_law_one_of", "_law_small", "_law_plan", "_law_fine", "_law_root", "_law_words", "_law_rows", "_law_stack", "_law_pile", "_law_fineness", "_law_shared", "_law_outcome", "_law_four", "_law_two", "_law_right", "Misfit", "Excess", "NotAWrap", "NotAStack", "InvalidKind", "InvalidBase", "InvalidLength"]
def loose2 : List Str := ["InvalidNumber", "InvalidText", "InvalidNumbers", "InvalidWraps", "TooFine", "TooManyWraps", "Wrap", "Stack", "MOST_LENGTH", "MOST_WRAPS", "MOST_FINENESS", "MOST_CONSTANT", "TENS", "LEAST_BASE", "MOST_BASE", "LAST", "NEAR_regimes", "MOST_PIECE", "MOST_CODE", "RANGES", "NEAR_comparing"]
def looseL : List Str := loose0 ++ loose1 ++ loose2
abbrev RR : PySem.W.OpenRow := PySem.W.OpenLaw.row PySem.Challenge.rw_sizestacks_k33_comparing_refused
def tabL : List He.Tab := [(fun K => He.ga K "RANGES", ["plus", "told", "whole", "pieces", "cut", "coded", "filled"])]
def fbL (K : PySem.W.Frag) : Bool := [isiB K (He.ga K "Wrap"), isiB K (He.ga K "Stack"), strB K (He.ga K "Stack"), strB K (He.ga K "Wrap"), decide (He.ga K "Stack" ≠ He.ga K "Wrap"), errCB K 0 (He.ga K "InvalidNumber") "value", errCB K 0 (He.ga K "NotAStack") "value", errCB K 2 (He.ga K "TooFine") "limit", outCs.all (outB K outCs), notB K notCs, smB K "Stack" "read", decide ((He.cT K ("_law_four", none)).2 ≠ (He.cT K ("_law_right", none)).2), decide ((He.cT K ("_law_four", none)).2 ≠ (He.cT K ("law", none)).2), decide ((He.cT K ("_law_right", none)).2 ≠ (He.cT K ("law", none)).2), kitTabB K ["Wrap", "Stack"], rngB K (He.ga K "RANGES") (Wr.plus 0).kind (Wr.plus 0).rng, rngB K (He.ga K "RANGES") (Wr.told 0).kind (Wr.told 0).rng, rngB K (He.ga K "RANGES") (Wr.whole 0).kind (Wr.whole 0).rng, rngB K (He.ga K "RANGES") (Wr.pieces 0 0).kind (Wr.pieces 0 0).rng, rngB K (He.ga K "RANGES") (Wr.cut 0 0).kind (Wr.cut 0 0).rng, rngB K (He.ga K "RANGES") (Wr.coded 0 0).kind (Wr.coded 0 0).rng, rngB K (He.ga K "RANGES") (Wr.filled 0).kind (Wr.filled 0).rng, keysB K (He.ga K "RANGES")].all id
abbrev hk : PySem.W.Hook := hookS 5 fbL faL fnL tabL tfL smL
def ob (z : PySem.W.SharedT) : (Bool × AlX) × He.AlD := obsSG 5 fbL faL fnL tabL tfL smL (HandSHeadRun.getT z)
theorem ob_eq (z : PySem.W.SharedT) : ob z = hk.obs z.abs := obsSG_eq (HandSHeadRun.getT_eq z)
theorem runF (w : World) : HandSHeadRun.RunEq RR (PySem.W.view RR.prog [88]) hk ob 30000 looseL (w.withFollow "special-get-raises" false) := by
  intro os
  kernel_rfl
theorem runT (w : World) : HandSHeadRun.RunEq RR (PySem.W.view RR.prog [88]) hk ob 30000 looseL (w.withFollow "special-get-raises" true) := by
  intro os
  kernel_rfl
theorem run (w : World) : HandSHeadRun.RunEq RR (PySem.W.view RR.prog [88]) hk ob 30000 looseL w :=
  PySem.W.byRow2 "special-get-raises" (P := fun w => HandSHeadRun.RunEq RR (PySem.W.view RR.prog [88]) hk ob 30000 looseL w) runF runT w
theorem tx_of {w : World} {K : PySem.W.Frag} {h : Heap} {mg : Str → Option Value} (X : K.In h) (G : h.Ns mainGlobals mg) (c0 : SaysX fbL faL fnL tabL w K) (s0 : He5.SaysA [] smL K) : Tx w K mg := by
  have c : He.SaysD faL fnL K := c0.t.d
  exact {
    d_is_integer := let ⟨fd, F⟩ := c.def_ 0 (d := dd_is_integer) rfl; ⟨_, fd, F, He.glo_ok X G (c.fact 0 (f := .glo "is_integer") rfl)⟩,
    d_is_between := let ⟨fd, F⟩ := c.def_ 1 (d := dd_is_between) rfl; ⟨_, fd, F, He.glo_ok X G (c.fact 1 (f := .glo "is_between") rfl)⟩,
    d_check_length := let ⟨fd, F⟩ := c.def_ 2 (d := dd_check_length) rfl; ⟨_, fd, F, He.glo_ok X G (c.fact 2 (f := .glo "check_length") rfl)⟩,
    d_check_base := let ⟨fd, F⟩ := c.def_ 3 (d := dd_check_base) rfl; ⟨_, fd, F, He.glo_ok X G (c.fact 3 (f := .glo "check_base") rfl)⟩,
    d_figures_of := let ⟨fd, F⟩ := c.def_ 4 (d := dd_figures_of) rfl; ⟨_, fd, F, He.glo_ok X G (c.fact 4 (f := .glo "figures_of") rfl)⟩,
    d_common_divisor := let ⟨fd, F⟩ := c.def_ 5 (d := dd_common_divisor) rfl; ⟨_, fd, F, He.glo_ok X G (c.fact 5 (f := .glo "common_divisor") rfl)⟩,
    d_amount_of := let ⟨fd, F⟩ := c.def_ 6 (d := dd_amount_of) rfl; ⟨_, fd, F, He.glo_ok X G (c.fact 6 (f := .glo "amount_of") rfl)⟩,
    d_told_lengths := let ⟨fd, F⟩ := c.def_ 7 (d := dd_told_lengths) rfl; ⟨_, fd, F, He.glo_ok X G (c.fact 7 (f := .glo "told_lengths") rfl)⟩,
    d_first_reach := let ⟨fd, F⟩ := c.def_ 8 (d := dd_first_reach) rfl; ⟨_, fd, F, He.glo_ok X G (c.fact 8 (f := .glo "first_reach") rfl)⟩,
    d_changes := let ⟨fd, F⟩ := c.def_ 9 (d := dd_changes) rfl; ⟨_, fd, F, He.glo_ok X G (c.fact 9 (f := .glo "changes") rfl)⟩,
    d_stretches := let ⟨fd, F⟩ := c.def_ 10 (d := dd_stretches) rfl; ⟨_, fd, F, He.glo_ok X G (c.fact 10 (f := .glo "stretches") rfl)⟩,
    d_fault_in := let ⟨fd, F⟩ := c.def_ 11 (d := dd_fault_in) rfl; ⟨_, fd, F, He.glo_ok X G (c.fact 11 (f := .glo "fault_in") rfl)⟩,
    d_begun := let ⟨fd, F⟩ := c.def_ 12 (d := dd_begun) rfl; ⟨_, fd, F, He.glo_ok X G (c.fact 12 (f := .glo "begun") rfl)⟩,
    d_total_of := let ⟨fd, F⟩ := c.def_ 13 (d := dd_total_of) rfl; ⟨_, fd, F, He.glo_ok X G (c.fact 13 (f := .glo "total_of") rfl)⟩,
    d_in_pieces := let ⟨fd, F⟩ := c.def_ 14 (d := dd_in_pieces) rfl; ⟨_, fd, F, He.glo_ok X G (c.fact 14 (f := .glo "in_pieces") rfl)⟩,
    d_wrap_in := let ⟨fd, F⟩ := c.def_ 15 (d := dd_wrap_in) rfl; ⟨_, fd, F, He.glo_ok X G (c.fact 15 (f := .glo "wrap_in") rfl)⟩,
    d_check_wrap := let ⟨fd, F⟩ := c.def_ 16 (d := dd_check_wrap) rfl; ⟨_, fd, F, He.glo_ok X G (c.fact 16 (f := .glo "check_wrap") rfl)⟩,
    d_fineness_of := let ⟨fd, F⟩ := c.def_ 17 (d := dd_fineness_of) rfl; ⟨_, fd, F, He.glo_ok X G (c.fact 17 (f := .glo "fineness_of") rfl)⟩,
    d_check_wraps := let ⟨fd, F⟩ := c.def_ 18 (d := dd_check_wraps) rfl; ⟨_, fd, F, He.glo_ok X G (c.fact 18 (f := .glo "check_wraps") rfl)⟩,
    d_stack_in := let ⟨fd, F⟩ := c.def_ 19 (d := dd_stack_in) rfl; ⟨_, fd, F, He.glo_ok X G (c.fact 19 (f := .glo "stack_in") rfl)⟩,
    d_check_stack := let ⟨fd, F⟩ := c.def_ 20 (d := dd_check_stack) rfl; ⟨_, fd, F, He.glo_ok X G (c.fact 20 (f := .glo "check_stack") rfl)⟩,
    d_shared_fineness := let ⟨fd, F⟩ := c.def_ 21 (d := dd_shared_fineness) rfl; ⟨_, fd, F, He.glo_ok X G (c.fact 21 (f := .glo "shared_fineness") rfl)⟩,
    d_check_both := let ⟨fd, F⟩ := c.def_ 22 (d := dd_check_both) rfl; ⟨_, fd, F, He.glo_ok X G (c.fact 22 (f := .glo "check_both") rfl)⟩,
    d_sizes_along := let ⟨fd, F⟩ := c.def_ 23 (d := dd_sizes_along) rfl; ⟨_, fd, F, He.glo_ok X G (c.fact 23 (f := .glo "sizes_along") rfl)⟩,
    d_leads_along := let ⟨fd, F⟩ := c.def_ 24 (d := dd_leads_along) rfl; ⟨_, fd, F, He.glo_ok X G (c.fact 24 (f := .glo "leads_along") rfl)⟩,
    d_shared_stretches := let ⟨fd, F⟩ := c.def_ 25 (d := dd_shared_stretches) rfl; ⟨_, fd, F, He.glo_ok X G (c.fact 25 (f := .glo "shared_stretches") rfl)⟩,
    d_rounds_to_other := let ⟨fd, F⟩ := c.def_ 26 (d := dd_rounds_to_other) rfl; ⟨_, fd, F, He.glo_ok X G (c.fact 26 (f := .glo "rounds_to_other") rfl)⟩,
    d_rounds_to_longer := let ⟨fd, F⟩ := c.def_ 27 (d := dd_rounds_to_longer) rfl; ⟨_, fd, F, He.glo_ok X G (c.fact 27 (f := .glo "rounds_to_longer") rfl)⟩,
    d_first_along := let ⟨fd, F⟩ := c.def_ 28 (d := dd_first_along) rfl; ⟨_, fd, F, He.glo_ok X G (c.fact 28 (f := .glo "first_along") rfl)⟩,
    d_first_found := let ⟨fd, F⟩ := c.def_ 29 (d := dd_first_found) rfl; ⟨_, fd, F, He.glo_ok X G (c.fact 29 (f := .glo "first_found") rfl)⟩,
    d_first_other := let ⟨fd, F⟩ := c.def_ 30 (d := dd_first_other) rfl; ⟨_, fd, F, He.glo_ok X G (c.fact 30 (f := .glo "first_other") rfl)⟩,
    d_alike := let ⟨fd, F⟩ := c.def_ 31 (d := dd_alike) rfl; ⟨_, fd, F, He.glo_ok X G (c.fact 31 (f := .glo "alike") rfl)⟩,
    d_first_longer := let ⟨fd, F⟩ := c.def_ 32 (d := dd_first_longer) rfl; ⟨_, fd, F, He.glo_ok X G (c.fact 32 (f := .glo "first_longer") rfl)⟩,
    d_never_longer := let ⟨fd, F⟩ := c.def_ 33 (d := dd_never_longer) rfl; ⟨_, fd, F, He.glo_ok X G (c.fact 33 (f := .glo "never_longer") rfl)⟩,
    d_exchangeable := let ⟨fd, F⟩ := c.def_ 34 (d := dd_exchangeable) rfl; ⟨_, fd, F, He.glo_ok X G (c.fact 34 (f := .glo "exchangeable") rfl)⟩,
    d_idle := let ⟨fd, F⟩ := c.def_ 35 (d := dd_idle) rfl; ⟨_, fd, F, He.glo_ok X G (c.fact 35 (f := .glo "idle") rfl)⟩,
    d_L_bowl := let ⟨fd, F⟩ := c.def_ 36 (d := dd_L_bowl) rfl; ⟨_, fd, F, He.glo_ok X G (c.fact 36 (f := .glo "_law_bowl") rfl)⟩,
    d_L_scoop := let ⟨fd, F⟩ := c.def_ 37 (d := dd_L_scoop) rfl; ⟨_, fd, F, He.glo_ok X G (c.fact 37 (f := .glo "_law_scoop") rfl)⟩,
    d_L_one_of := let ⟨fd, F⟩ := c.def_ 38 (d := dd_L_one_of) rfl; ⟨_, fd, F, He.glo_ok X G (c.fact 38 (f := .glo "_law_one_of") rfl)⟩,
    d_L_small := let ⟨fd, F⟩ := c.def_ 39 (d := dd_L_small) rfl; ⟨_, fd, F, He.glo_ok X G (c.fact 39 (f := .glo "_law_small") rfl)⟩,
    d_L_plan := let ⟨fd, F⟩ := c.def_ 40 (d := dd_L_plan) rfl; ⟨_, fd, F, He.glo_ok X G (c.fact 40 (f := .glo "_law_plan") rfl)⟩,
    d_L_fine := let ⟨fd, F⟩ := c.def_ 41 (d := dd_L_fine) rfl; ⟨_, fd, F, He.glo_ok X G (c.fact 41 (f := .glo "_law_fine") rfl)⟩,
    d_L_root := let ⟨fd, F⟩ := c.def_ 42 (d := dd_L_root) rfl; ⟨_, fd, F, He.glo_ok X G (c.fact 42 (f := .glo "_law_root") rfl)⟩,
    d_L_words := let ⟨fd, F⟩ := c.def_ 43 (d := dd_L_words) rfl; ⟨_, fd, F, He.glo_ok X G (c.fact 43 (f := .glo "_law_words") rfl)⟩,
    d_L_rows := let ⟨fd, F⟩ := c.def_ 44 (d := dd_L_rows) rfl; ⟨_, fd, F, He.glo_ok X G (c.fact 44 (f := .glo "_law_rows") rfl)⟩,
    d_L_stack := let ⟨fd, F⟩ := c.def_ 45 (d := dd_L_stack) rfl; ⟨_, fd, F, He.glo_ok X G (c.fact 45 (f := .glo "_law_stack") rfl)⟩,
    d_L_pile := let ⟨fd, F⟩ := c.def_ 46 (d := dd_L_pile) rfl; ⟨_, fd, F, He.glo_ok X G (c.fact 46 (f := .glo "_law_pile") rfl)⟩,
    d_L_fineness := let ⟨fd, F⟩ := c.def_ 47 (d := dd_L_fineness) rfl; ⟨_, fd, F, He.glo_ok X G (c.fact 47 (f := .glo "_law_fineness") rfl)⟩,
    d_L_shared := let ⟨fd, F⟩ := c.def_ 48 (d := dd_L_shared) rfl; ⟨_, fd, F, He.glo_ok X G (c.fact 48 (f := .glo "_law_shared") rfl)⟩,
    d_L_outcome := let ⟨fd, F⟩ := c.def_ 49 (d := dd_L_outcome) rfl; ⟨_, fd, F, He.glo_ok X G (c.fact 49 (f := .glo "_law_outcome") rfl)⟩,
    d_L_four := let ⟨fd, F⟩ := c.def_ 50 (d := dd_L_four) rfl; ⟨_, fd, F, He.glo_ok X G (c.fact 50 (f := .glo "_law_four") rfl)⟩,
    d_L_two := let ⟨fd, F⟩ := c.def_ 51 (d := dd_L_two) rfl; ⟨_, fd, F, He.glo_ok X G (c.fact 51 (f := .glo "_law_two") rfl)⟩,
    d_L_right := let ⟨fd, F⟩ := c.def_ 52 (d := dd_L_right) rfl; ⟨_, fd, F, He.glo_ok X G (c.fact 52 (f := .glo "_law_right") rfl)⟩,
    d_law := let ⟨fd, F⟩ := c.def_ 53 (d := dd_law) rfl; ⟨_, fd, F, He.glo_ok X G (c.fact 53 (f := .glo "law") rfl)⟩,
    b_ArithmeticError := He.free_ok X G (c.fact 54 (f := .free "ArithmeticError") rfl),
    b_ValueError := He.free_ok X G (c.fact 55 (f := .free "ValueError") rfl),
    b_abs := He.free_ok X G (c.fact 56 (f := .free "abs") rfl),
    b_all := He.free_ok X G (c.fact 57 (f := .free "all") rfl),
    b_divmod := He.free_ok X G (c.fact 58 (f := .free "divmod") rfl),
    b_enumerate := He.free_ok X G (c.fact 59 (f := .free "enumerate") rfl),
    b_int := He.free_ok X G (c.fact 60 (f := .free "int") rfl),
    b_isinstance := He.free_ok X G (c.fact 61 (f := .free "isinstance") rfl),
    b_len := He.free_ok X G (c.fact 62 (f := .free "len") rfl),
    b_list := He.free_ok X G (c.fact 63 (f := .free "list") rfl),
    b_max := He.free_ok X G (c.fact 64 (f := .free "max") rfl),
    b_min := He.free_ok X G (c.fact 65 (f := .free "min") rfl),
    b_range := He.free_ok X G (c.fact 66 (f := .free "range") rfl),
    b_repr := He.free_ok X G (c.fact 67 (f := .free "repr") rfl),
    b_sorted := He.free_ok X G (c.fact 68 (f := .free "sorted") rfl),
    b_str := He.free_ok X G (c.fact 69 (f := .free "str") rfl),
    b_tuple := He.free_ok X G (c.fact 70 (f := .free "tuple") rfl),
    b_zip := He.free_ok X G (c.fact 71 (f := .free "zip") rfl),
    c_MOST_LENGTH := He.int_ok X G (c.fact 72 (f := .int "MOST_LENGTH" 1000000000000000000000000000000000000000000000000000000000000) rfl),
    c_MOST_WRAPS := He.int_ok X G (c.fact 73 (f := .int "MOST_WRAPS" 6) rfl),
    c_MOST_FINENESS := He.int_ok X G (c.fact 74 (f := .int "MOST_FINENESS" 120) rfl),
    c_MOST_CONSTANT := He.int_ok X G (c.fact 75 (f := .int "MOST_CONSTANT" 1000) rfl),
    c_LEAST_BASE := He.int_ok X G (c.fact 76 (f := .int "LEAST_BASE" 2) rfl),
    c_MOST_BASE := He.int_ok X G (c.fact 77 (f := .int "MOST_BASE" 256) rfl),
    c_LAST := He.int_ok X G (c.fact 78 (f := .int "LAST" 999999999999999999999999999999999999999999999999999999999999) rfl),
    c_NEAR_regimes := He.int_ok X G (c.fact 79 (f := .int "NEAR_regimes" 2048) rfl),
    c_MOST_PIECE := He.int_ok X G (c.fact 80 (f := .int "MOST_PIECE" 60) rfl),
    c_MOST_CODE := He.int_ok X G (c.fact 81 (f := .int "MOST_CODE" 120) rfl),
    c_NEAR_comparing := He.int_ok X G (c.fact 82 (f := .int "NEAR_comparing" 48) rfl),
    c_TENS := He.str_ok X G (c.fact 83 (f := .str "TENS" "0123456789") rfl),
    k_Wrap := He.glo_ok X G (c.fact 84 (f := .glo "Wrap") rfl),
    cl_Wrap := He.cls_ok (c.fact 85 (f := .cls "Wrap") rfl),
    mk_Wrap := He.mkr_ok (c.fact 86 (f := .mkr "Wrap") rfl),
    na_Wrap_kind := He.noat_ok (c.fact 87 (f := .noat "Wrap" "kind") rfl),
    na_Wrap_numbers := He.noat_ok (c.fact 88 (f := .noat "Wrap" "numbers") rfl),
    na_Wrap_words := He.noat_ok (c.fact 89 (f := .noat "Wrap" "words") rfl),
    me_Wrap___init__ := He.meth_ok (c.fact 90 (f := .meth "Wrap" "__init__") rfl),
    me_Wrap_grown := He.meth_ok (c.fact 91 (f := .meth "Wrap" "grown") rfl),
    me_Wrap___eq__ := He.meth_ok (c.fact 92 (f := .meth "Wrap" "__eq__") rfl),
    me_Wrap___str__ := He.meth_ok (c.fact 93 (f := .meth "Wrap" "__str__") rfl),
    k_Stack := He.glo_ok X G (c.fact 94 (f := .glo "Stack") rfl),
    cl_Stack := He.cls_ok (c.fact 95 (f := .cls "Stack") rfl),
    mk_Stack := He.mkr_ok (c.fact 96 (f := .mkr "Stack") rfl),
    na_Stack_base := He.noat_ok (c.fact 97 (f := .noat "Stack" "base") rfl),
    na_Stack_wraps := He.noat_ok (c.fact 98 (f := .noat "Stack" "wraps") rfl),
    na_Stack_fineness := He.noat_ok (c.fact 99 (f := .noat "Stack" "fineness") rfl),
    me_Stack___init__ := He.meth_ok (c.fact 100 (f := .meth "Stack" "__init__") rfl),
    me_Stack_grown := He.meth_ok (c.fact 101 (f := .meth "Stack" "grown") rfl),
    me_Stack___str__ := He.meth_ok (c.fact 102 (f := .meth "Stack" "__str__") rfl),
    me_Stack___eq__ := He.meth_ok (c.fact 103 (f := .meth "Stack" "__eq__") rfl),
    k_InvalidNumber := He.glo_ok X G (c.fact 104 (f := .glo "InvalidNumber") rfl),
    k_NotAStack := He.glo_ok X G (c.fact 105 (f := .glo "NotAStack") rfl),
    k_TooFine := He.glo_ok X G (c.fact 106 (f := .glo "TooFine") rfl),
    k_Excess := He.glo_ok X G (c.fact 107 (f := .glo "Excess") rfl),
    k_Misfit := He.glo_ok X G (c.fact 108 (f := .glo "Misfit") rfl),
    k_RANGES := He.glo_ok X G (c.fact 109 (f := .glo "RANGES") rfl),
    dt_L_four := let ⟨fd, F⟩ := c.def_ 50 (d := dd_L_four) rfl; ⟨fd, F, He.glo_ok X G (c.fact 50 (f := .glo "_law_four") rfl)⟩,
    dt_L_right := let ⟨fd, F⟩ := c.def_ 52 (d := dd_L_right) rfl; ⟨fd, F, He.glo_ok X G (c.fact 52 (f := .glo "_law_right") rfl)⟩,
    dt_law := let ⟨fd, F⟩ := c.def_ 53 (d := dd_law) rfl; ⟨fd, F, He.glo_ok X G (c.fact 53 (f := .glo "law") rfl)⟩,
    dm_Wrap___init__ := c.def_ 54 (d := dd_Wrap___init__) rfl,
    dm_Wrap_grown := c.def_ 55 (d := dd_Wrap_grown) rfl,
    dm_Wrap___eq__ := c.def_ 56 (d := dd_Wrap___eq__) rfl,
    dm_Wrap___str__ := c.def_ 57 (d := dd_Wrap___str__) rfl,
    dm_Stack___init__ := c.def_ 58 (d := dd_Stack___init__) rfl,
    dm_Stack_grown := c.def_ 59 (d := dd_Stack_grown) rfl,
    dm_Stack___str__ := c.def_ 60 (d := dd_Stack___str__) rfl,
    dm_Stack___eq__ := c.def_ 61 (d := dd_Stack___eq__) rfl,
    dm_InvalidNumber___init__ := c.def_ 62 (d := dd_InvalidNumber___init__) rfl,
    dm_NotAStack___init__ := c.def_ 63 (d := dd_NotAStack___init__) rfl,
    dm_TooFine___init__ := c.def_ 64 (d := dd_TooFine___init__) rfl,
    kd := c0.t.tab 0 (t := (fun K => He.ga K "RANGES", ["plus", "told", "whole", "pieces", "cut", "coded", "filled"])) rfl,
    rg := fun a => by
      cases a with
      | plus _ => exact rngB_ok (K := K) (kd := (Wr.plus 0).kind) (qs := (Wr.plus 0).rng) (List.all_eq_true.mp c0.b _ (.tail _ (.tail _ (.tail _ (.tail _ (.tail _ (.tail _ (.tail _ (.tail _ (.tail _ (.tail _ (.tail _ (.tail _ (.tail _ (.tail _ (.tail _ (.head _)))))))))))))))))
      | told _ => exact rngB_ok (K := K) (kd := (Wr.told 0).kind) (qs := (Wr.told 0).rng) (List.all_eq_true.mp c0.b _ (.tail _ (.tail _ (.tail _ (.tail _ (.tail _ (.tail _ (.tail _ (.tail _ (.tail _ (.tail _ (.tail _ (.tail _ (.tail _ (.tail _ (.tail _ (.tail _ (.head _))))))))))))))))))
      | whole _ => exact rngB_ok (K := K) (kd := (Wr.whole 0).kind) (qs := (Wr.whole 0).rng) (List.all_eq_true.mp c0.b _ (.tail _ (.tail _ (.tail _ (.tail _ (.tail _ (.tail _ (.tail _ (.tail _ (.tail _ (.tail _ (.tail _ (.tail _ (.tail _ (.tail _ (.tail _ (.tail _ (.tail _ (.head _)))))))))))))))))))
      | pieces _ _ => exact rngB_ok (K := K) (kd := (Wr.pieces 0 0).kind) (qs := (Wr.pieces 0 0).rng) (List.all_eq_true.mp c0.b _ (.tail _ (.tail _ (.tail _ (.tail _ (.tail _ (.tail _ (.tail _ (.tail _ (.tail _ (.tail _ (.tail _ (.tail _ (.tail _ (.tail _ (.tail _ (.tail _ (.tail _ (.tail _ (.head _))))))))))))))))))))
      | cut _ _ => exact rngB_ok (K := K) (kd := (Wr.cut 0 0).kind) (qs := (Wr.cut 0 0).rng) (List.all_eq_true.mp c0.b _ (.tail _ (.tail _ (.tail _ (.tail _ (.tail _ (.tail _ (.tail _ (.tail _ (.tail _ (.tail _ (.tail _ (.tail _ (.tail _ (.tail _ (.tail _ (.tail _ (.tail _ (.tail _ (.tail _ (.head _)))))))))))))))))))))
      | coded _ _ => exact rngB_ok (K := K) (kd := (Wr.coded 0 0).kind) (qs := (Wr.coded 0 0).rng) (List.all_eq_true.mp c0.b _ (.tail _ (.tail _ (.tail _ (.tail _ (.tail _ (.tail _ (.tail _ (.tail _ (.tail _ (.tail _ (.tail _ (.tail _ (.tail _ (.tail _ (.tail _ (.tail _ (.tail _ (.tail _ (.tail _ (.tail _ (.head _))))))))))))))))))))))
      | filled _ => exact rngB_ok (K := K) (kd := (Wr.filled 0).kind) (qs := (Wr.filled 0).rng) (List.all_eq_true.mp c0.b _ (.tail _ (.tail _ (.tail _ (.tail _ (.tail _ (.tail _ (.tail _ (.tail _ (.tail _ (.tail _ (.tail _ (.tail _ (.tail _ (.tail _ (.tail _ (.tail _ (.tail _ (.tail _ (.tail _ (.tail _ (.tail _ (.head _))))))))))))))))))))))),
    rn := fun _ hz => keysB_ok (List.all_eq_true.mp c0.b _ (.tail _ (.tail _ (.tail _ (.tail _ (.tail _ (.tail _ (.tail _ (.tail _ (.tail _ (.tail _ (.tail _ (.tail _ (.tail _ (.tail _ (.tail _ (.tail _ (.tail _ (.tail _ (.tail _ (.tail _ (.tail _ (.tail _ (.head _)))))))))))))))))))))))) hz,
    is_Wrap := isiB_ok (He.cls_ok (c.fact 85 (f := .cls "Wrap") rfl)) (List.all_eq_true.mp c0.b _ (.head _)),
    is_Stack := isiB_ok (He.cls_ok (c.fact 95 (f := .cls "Stack") rfl)) (List.all_eq_true.mp c0.b _ (.tail _ (.head _))),
    ne_Stack_Wrap := of_decide_eq_true (List.all_eq_true.mp c0.b _ (.tail _ (.tail _ (.tail _ (.tail _ (.head _)))))),
    st_Stack := strB_ok (List.all_eq_true.mp c0.b _ (.tail _ (.tail _ (.head _)))),
    st_Wrap := strB_ok (List.all_eq_true.mp c0.b _ (.tail _ (.tail _ (.tail _ (.head _))))),
    er_InvalidNumber := errCB_ok (List.all_eq_true.mp c0.b _ (.tail _ (.tail _ (.tail _ (.tail _ (.tail _ (.head _))))))),
    er_NotAStack := errCB_ok (List.all_eq_true.mp c0.b _ (.tail _ (.tail _ (.tail _ (.tail _ (.tail _ (.tail _ (.head _)))))))),
    er_TooFine := errCB_ok (List.all_eq_true.mp c0.b _ (.tail _ (.tail _ (.tail _ (.tail _ (.tail _ (.tail _ (.tail _ (.head _))))))))),
    kt := kitTab_ok (List.all_eq_true.mp c0.b _ (.tail _ (.tail _ (.tail _ (.tail _ (.tail _ (.tail _ (.tail _ (.tail _ (.tail _ (.tail _ (.tail _ (.tail _ (.tail _ (.tail _ (.head _)))))))))))))))),
    ot := out_ok (List.all_eq_true.mp c0.b _ (.tail _ (.tail _ (.tail _ (.tail _ (.tail _ (.tail _ (.tail _ (.tail _ (.head _)))))))))),
    nt := not_ok (List.all_eq_true.mp c0.b _ (.tail _ (.tail _ (.tail _ (.tail _ (.tail _ (.tail _ (.tail _ (.tail _ (.tail _ (.head _))))))))))),
    sm_Stack_read := smB_ok (List.all_eq_true.mp c0.b _ (.tail _ (.tail _ (.tail _ (.tail _ (.tail _ (.tail _ (.tail _ (.tail _ (.tail _ (.tail _ (.head _)))))))))))),
    ds_Stack_read := s0.def_ 0 (d := dd_Stack_read) rfl,
    nt_L_four_L_right := of_decide_eq_true (List.all_eq_true.mp c0.b _ (.tail _ (.tail _ (.tail _ (.tail _ (.tail _ (.tail _ (.tail _ (.tail _ (.tail _ (.tail _ (.tail _ (.head _))))))))))))),
    nt_L_four_law := of_decide_eq_true (List.all_eq_true.mp c0.b _ (.tail _ (.tail _ (.tail _ (.tail _ (.tail _ (.tail _ (.tail _ (.tail _ (.tail _ (.tail _ (.tail _ (.tail _ (.head _)))))))))))))),
    nt_L_right_law := of_decide_eq_true (List.all_eq_true.mp c0.b _ (.tail _ (.tail _ (.tail _ (.tail _ (.tail _ (.tail _ (.tail _ (.tail _ (.tail _ (.tail _ (.tail _ (.tail _ (.tail _ (.head _))))))))))))))) }
def spLaw (K : PySem.W.Frag) : Sp := fun vs H Q _ => ∃ (a : Addr) (ns : List Int), vs = [.ref a] ∧ SqL K H a (ns.map V.int) ∧ ns.length ≤ 63 ∧ (∀ z ∈ ns, Builtin.Int.intBits z ≤ 1048576) ∧ LamX.Tabs (tabsOf K) H ∧ ∀ H', Q (.bl true) H'

/-! ### errors that leave -/
/-- an error of the class C leaves, with v in its field f -/
def Fails (K : PySem.W.Frag) (H : Hp) (E : XK) (C f : Str) (v : V) : Prop := ∀ d, H d = none → E (.ref (He.ga K C)) (some d) (upd H d (.xd [(f, v)]))
/-! ### what a number is (for numbers alone) -/
def spIsInt : Sp := fun vs H Q _ => ∃ i : Int, vs = [.int i] ∧ Q (.bl true) H
def spBetween : Sp := fun vs H Q _ => ∃ v l m : Int, vs = [.int v, .int l, .int m] ∧ Q (.bl (decide (l ≤ v ∧ v ≤ m))) H
def spLength : Sp := fun vs H Q _ => ∃ n : Int, vs = [.int n] ∧ 0 ≤ n ∧ n ≤ 10 ^ 60 - 1 ∧ Q .non H
def spBase : Sp := fun vs H Q _ => ∃ n : Int, vs = [.int n] ∧ 2 ≤ n ∧ n ≤ 256 ∧ Q .non H
def spFig : Sp := fun vs H Q _ => ∃ n b : Int, vs = [.int n, .int b] ∧ 2 ≤ b ∧ b ≤ 256 ∧ n < 2 ^ 4000 ∧ ∀ k, IsF b n k → Q (.int k) H
section
variable {P : Program} {w : World} {K : PySem.W.Frag} {mg : Str → Option Value} {base : Heap}
theorem ok_is_integer (T : Tx w K mg) : Prom P w K mg base CX0 1 "is_integer" s_is_integer ["value"] spIsInt := by
  refine Prom.of T.d_is_integer sc_is_integer (fun vs H Q E h => ?_) (fun _ _ _ _ _ _ us hl => match us, hl with | [_], _ => rfl) (fun f cdv A outer s H vs Q E hr h => ?_)
  · obtain ⟨i, rfl, _⟩ := h
    rfl
  · obtain ⟨i, rfl, k⟩ := h
    refine ⟨_, (pss_one (ps_ret (pe_and (pe_callB call_isi (by rfl) T.b_isinstance (by decide +kernel) (pa_cons (pv 0) (pa_cons (pe_bltn (v := .ty "int") (by rfl) T.b_int (by decide +kernel) rfl) pa_nil))) (pe_and (pe_cmpR op_isnotBl (pv 0) pe_bl (nomark _)) (pe_one (pe_cmpR op_isnotBl (pv 0) pe_bl (nomark _))))))), ?_⟩
    refine ⟨_, rfl, _, _, _, _, true, rfl, .ty _, .base (.int _), kit_ty (by decide +kernel), true, rfl, iteT ?_⟩
    refine ⟨_, rfl, _, rfl, true, rfl, iteT ?_⟩
    exact ⟨_, rfl, _, rfl, k⟩
theorem ok_is_between (T : Tx w K mg) : Prom P w K mg base CX0 2 "is_between" s_is_between ["value", "least", "most"] spBetween := by
  refine Prom.of T.d_is_between sc_is_between (fun vs H Q E h => ?_) (fun _ _ _ _ _ _ us hl => match us, hl with | [_, _, _], _ => rfl) (fun f cdv A outer s H vs Q E hr h => ?_)
  · obtain ⟨v, l, m, rfl, _⟩ := h
    rfl
  · obtain ⟨v, l, m, rfl, k⟩ := h
    refine ⟨_, (pss_one (ps_ret (pe_and (pe_callP (ok_is_integer T) (hr.mono (by decide)) (by rfl) pass0 (pa_cons (pv 0) pa_nil)) (pe_one (pe_chain op_le op_le (pv 1) (pv 0) (pv 2)))))), ?_⟩
    refine ⟨_, rfl, v, rfl, true, rfl, iteT ?_⟩
    refine ⟨_, rfl, _, rfl, _, _, rfl, rfl, _, rfl, ifd (fun h1 => ?_) (fun h1 => ?_)⟩
    · refine ⟨_, rfl, _, _, rfl, rfl, ?_⟩
      show Q (.bl (decide (v ≤ m))) H
      have e : decide (v ≤ m) = decide (l ≤ v ∧ v ≤ m) := by simp [h1]
      rw [e]
      exact k
    · show Q (.bl false) H
      have e : false = decide (l ≤ v ∧ v ≤ m) := by simp [h1]
      rw [e]
      exact k
end
section
variable {P : Program} {w : World} {K : PySem.W.Frag} {mg : Str → Option Value} {base : Heap}
theorem ok_check_length (T : Tx w K mg) : Prom P w K mg base CX0 3 "check_length" s_check_length ["value"] spLength := by
  refine Prom.of T.d_check_length sc_check_length (fun vs H Q E h => ?_) (fun _ _ _ _ _ _ us hl => match us, hl with | [_], _ => rfl) (fun f cdv A outer s H vs Q E hr h => ?_)
  · obtain ⟨i, rfl, _⟩ := h
    rfl
  · obtain ⟨i, rfl, h0, h1, k⟩ := h
    refine ⟨_, (pss_one (ps_if (pt_not (pt_val (pe_callP (ok_is_between T) (hr.mono (by decide)) (by rfl) pass0 (pa_cons (pv 0) (pa_cons pe_int (pa_cons (pe_op op_sub (pe_gint T.c_MOST_LENGTH) pe_int) pa_nil)))))) (pss_one ps_never) pss_nil)), ?_⟩
    refine ⟨_, rfl, _, _, rfl, rfl, _, _, _, rfl, _, rfl, ?_⟩
    exact ifn (fun c => absurd (show (0 : Int) ≤ i ∧ i ≤ _ from ⟨h0, by omega⟩) c) (fun _ => k)
end
section
variable {P : Program} {w : World} {K : PySem.W.Frag} {mg : Str → Option Value} {base : Heap}
theorem ok_check_base (T : Tx w K mg) : Prom P w K mg base CX0 3 "check_base" s_check_base ["value"] spBase := by
  refine Prom.of T.d_check_base sc_check_base (fun vs H Q E h => ?_) (fun _ _ _ _ _ _ us hl => match us, hl with | [_], _ => rfl) (fun f cdv A outer s H vs Q E hr h => ?_)
  · obtain ⟨i, rfl, _⟩ := h
    rfl
  · obtain ⟨i, rfl, h0, h1, k⟩ := h
    refine ⟨_, (pss_one (ps_if (pt_not (pt_val (pe_callP (ok_is_between T) (hr.mono (by decide)) (by rfl) pass0 (pa_cons (pv 0) (pa_cons (pe_gint T.c_LEAST_BASE) (pa_cons (pe_gint T.c_MOST_BASE) pa_nil)))))) (pss_one ps_never) pss_nil)), ?_⟩
    refine ⟨_, rfl, _, _, _, rfl, _, rfl, ?_⟩
    exact ifn (fun c => absurd (show (2 : Int) ≤ i ∧ i ≤ 256 from ⟨h0, h1⟩) c) (fun _ => k)
end
section
variable {P : Program} {w : World} {K : PySem.W.Frag} {mg : Str → Option Value} {base : Heap}
theorem fig_mul {b p e n : Int} {j : Nat} (hb : 2 ≤ b) (hb2 : b ≤ 256) (hn : n < 2 ^ 4000) (hp : p = b ^ (j + 1)) (hj : j = 0 ∨ b ^ j ≤ n) (he : e = b ^ 8) : CMulW p e := by
  have b8 : b ^ 8 ≤ 256 ^ 8 := by
    have g : ∀ m : Nat, b ^ m ≤ 256 ^ m := fun m => by
      induction m with
      | zero => rw [Int.pow_zero, Int.pow_zero]; exact Int.le_refl _
      | succ m ih =>
        rw [Int.pow_succ, Int.pow_succ]
        exact Int.mul_le_mul ih hb2 (by omega) (Int.le_of_lt (Int.lt_of_lt_of_le (by decide) (pow_pos (show (1 : Int) ≤ 256 by decide) m)))
    exact g 8
  have p1 := pow_pos (show 1 ≤ b by omega) (j + 1)
  have p8 := pow_pos (show 1 ≤ b by omega) 8
  have hq : b ^ j ≤ 2 ^ 4000 := by
    rcases hj with h | h
    · rw [h, Int.pow_zero]
      exact pow_pos (by decide) 4000
    · omega
  have pj := pow_pos (show 1 ≤ b by omega) j
  have hp2 : p ≤ 2 ^ 4000 * 256 := by
    rw [hp, Int.pow_succ]
    exact Int.mul_le_mul hq hb2 (by omega) (Int.le_of_lt (Int.lt_of_lt_of_le (by decide) (pow_pos (show (1 : Int) ≤ 2 by decide) 4000)))
  refine wide_mul (a := 4009) (b := 65) ?_ ?_ (by decide) (by decide) (by decide)
  · have h1 : p < 2 ^ 4009 := Int.lt_of_le_of_lt hp2 (by decide)
    have h2 : ((p.natAbs : Nat) : Int) < ((2 ^ 4009 : Nat) : Int) := by
      rw [Int.natCast_pow]
      have e : ((2 : Nat) : Int) = 2 := rfl
      rw [e]
      omega
    exact Int.ofNat_lt.mp h2
  · have h1 : e < 2 ^ 65 := by
      rw [he]
      exact Int.lt_of_le_of_lt b8 (by decide)
    have h2 : ((e.natAbs : Nat) : Int) < ((2 ^ 65 : Nat) : Int) := by
      rw [Int.natCast_pow]
      have e : ((2 : Nat) : Int) = 2 := rfl
      rw [e]
      omega
    exact Int.ofNat_lt.mp h2
theorem ok_figures_of (T : Tx w K mg) : Prom P w K mg base CX0 1 "figures_of" s_figures_of ["length", "base"] spFig := by
  refine Prom.of T.d_figures_of sc_figures_of (fun vs H Q E h => ?_) (fun _ _ _ _ _ _ us hl => match us, hl with | [_, _], _ => rfl) (fun f cdv A outer s H vs Q E hr h => ?_)
  · obtain ⟨n, b, rfl, _⟩ := h
    rfl
  · obtain ⟨n, b, rfl, hb, hb2, hn, k⟩ := h
    refine ⟨_, (pss_cons (ps_par3 (i := 2) (j := 3) (l := 4) (by rfl) sc_figures_of.nd rfl rfl rfl (by decide) (by decide) (by decide) rfl rfl rfl (pa_cons pe_int (pa_cons (pv 1) (pa_cons pe_int pa_nil))) (by rfl))
      (pss_cons (ps_for PassesOwn.never (by rfl) (pi_range1 (by rfl) T.b_range (pa_cons pe_int pa_nil)) (pg_name (i := 5) sc_figures_of.nd rfl (Or.inl rfl)) (pss_one (ps_set (i := 4) sc_figures_of.nd rfl (Or.inl rfl) (pe_op op_mul (pv 4) (pv 1)))))
      (pss_cons (ps_while PassesOwn.never (pt_cmp (pc_le (pe_op op_mulW (pv 3) (pv 4)) (pv 0))) (pss_one (ps_par (i := 2) (j := 3) (by rfl) sc_figures_of.nd rfl rfl (by decide) rfl rfl (pa_cons (pe_op op_add (pv 2) pe_int) (pa_cons (pe_op op_mulW (pv 3) (pv 4)) pa_nil)) (by rfl))))
      (pss_cons (ps_while PassesOwn.never (pt_cmp (pc_le (pv 3) (pv 0))) (pss_one (ps_par (i := 2) (j := 3) (by rfl) sc_figures_of.nd rfl rfl (by decide) rfl rfl (pa_cons (pe_op op_add (pv 2) pe_int) (pa_cons (pe_op op_mul (pv 3) (pv 1)) pa_nil)) (by rfl))))
      (pss_one (ps_ret (pv 2))))))), ?_⟩
    -- count, power, eight = 1, base, 1
    refine ⟨_, rfl, _, _, _, rfl, ?_⟩
    -- for turn in range(8)
    refine ⟨8, rfl, by decide, by decide, for_range (lo := 0) (n := 8) (fun i σ H' => H' = H ∧ ∃ v, σ = [some (.int n), some (.int b), some (.int 1), some (.int b), some (.int (b ^ i)), v]) ⟨rfl, none, by rw [Int.pow_zero]; rfl⟩ ?_ ?_⟩
    · rintro i σ H' hi ⟨rfl, v, rfl⟩
      refine ⟨_, rfl, _, rfl, _, _, rfl, rfl, .inr ⟨by omega, by omega⟩, ?_⟩
      exact ⟨rfl, some (.int (0 + (i : Int))), by rw [Int.pow_succ]; rfl⟩
    · rintro σ H' ⟨rfl, v, rfl⟩
      -- while power * eight <= length
      refine ⟨fun m σ H1 => H1 = H' ∧ ∃ (j : Nat), σ = [some (.int n), some (.int b), some (.int ((j : Int) + 1)), some (.int (b ^ (j + 1))), some (.int (b ^ 8)), v] ∧ (j = 0 ∨ b ^ j ≤ n) ∧ m = (n + 1 - b ^ (j + 1)).toNat,
        ⟨_, rfl, 0, by rw [pow_one b]; rfl, .inl rfl, rfl⟩, ?_⟩
      rintro m σ H1 ⟨rfl, j, rfl, hj, hm⟩
      have p1 := pow_pos (show 1 ≤ b by omega) (j + 1)
      refine ⟨_, rfl, _, rfl, _, _, rfl, rfl, fig_mul hb hb2 hn rfl hj rfl, ?_⟩
      refine ⟨_, rfl, _, _, rfl, rfl, _, rfl, ifd (fun c => ?_) (fun c => ?_)⟩
      · refine ⟨_, fun σ' H' h => h, ?_⟩
        have e9 : b ^ (j + 1) * b ^ 8 = b ^ (j + 8 + 1) := by rw [← Int.pow_add]
        have e8 : b ^ (j + 1) < b ^ (j + 8 + 1) := Int.lt_of_lt_of_le (pow_lt hb (j + 1)) (pow_mono (show 1 ≤ b by omega) (by omega))
        refine ⟨_, rfl, _, _, rfl, rfl, _, rfl, _, rfl, _, _, rfl, rfl, fig_mul hb hb2 hn rfl hj rfl, _, _, rfl, ?_⟩
        refine ⟨_, ?_, rfl, j + 8, ?_, .inr ?_, rfl⟩
        · rw [hm]
          rw [e9] at c
          omega
        · show [some (V.int n), some (V.int b), some (V.int ((j : Int) + 1 + 8)), some (V.int (b ^ (j + 1) * b ^ 8)), some (V.int (b ^ 8)), v] = _
          rw [e9]
          have e : (j : Int) + 1 + 8 = ((j + 8 : Nat) : Int) + 1 := by omega
          rw [e]
        · rw [e9] at c
          exact Int.le_trans (pow_mono (show 1 ≤ b by omega) (by omega)) c
      · -- while power <= length
        refine ⟨fun m σ H2 => H2 = H1 ∧ ∃ (j : Nat), σ = [some (.int n), some (.int b), some (.int ((j : Int) + 1)), some (.int (b ^ (j + 1))), some (.int (b ^ 8)), v] ∧ (j = 0 ∨ b ^ j ≤ n) ∧ m = (n + 1 - b ^ (j + 1)).toNat,
          ⟨_, rfl, j, rfl, hj, rfl⟩, ?_⟩
        clear c hm p1 hj
        rintro m σ H2 ⟨rfl, j, rfl, hj, hm⟩
        have p1 := pow_pos (show 1 ≤ b by omega) (j + 1)
        refine ⟨_, rfl, _, rfl, _, _, rfl, rfl, _, rfl, ifd (fun c => ?_) (fun c => ?_)⟩
        · refine ⟨_, fun σ' H' h => h, ?_⟩
          have e8 := pow_lt hb (j + 1)
          refine ⟨_, rfl, _, _, rfl, rfl, _, rfl, _, rfl, _, _, rfl, rfl, .inr ⟨by omega, by omega⟩, _, _, rfl, ?_⟩
          refine ⟨_, ?_, rfl, j + 1, ?_, .inr c, rfl⟩
          · rw [hm]
            omega
          · show [some (V.int n), some (V.int b), some (V.int ((j : Int) + 1 + 1)), some (V.int (b ^ (j + 1) * b)), some (V.int (b ^ 8)), v] = _
            rw [← Int.pow_succ]
            have e : (j : Int) + 1 + 1 = ((j + 1 : Nat) : Int) + 1 := by omega
            rw [e]
        · exact ⟨_, rfl, k _ ⟨j, rfl, by omega, hj⟩⟩
end
section
variable {P : Program} {w : World} {K : PySem.W.Frag} {mg : Str → Option Value} {base : Heap}
def spTotal : Sp := fun vs H Q _ => ∃ n b : Int, vs = [.int n, .int b] ∧ 2 ≤ b ∧ b ≤ 256 ∧ 0 ≤ n ∧ n < 2 ^ 3900 ∧ ∀ s, IsTot b n s → s ≤ n + 4000 → Q (.int s) H
theorem ok_total_of (T : Tx w K mg) : Prom P w K mg base CX0 2 "total_of" s_total_of ["length", "base"] spTotal := by
  refine Prom.of T.d_total_of sc_total_of (fun vs H Q E h => ?_) (fun _ _ _ _ _ _ us hl => match us, hl with | [_, _], _ => rfl) (fun f cdv A outer s H vs Q E hr h => ?_)
  · obtain ⟨n, b, rfl, _⟩ := h
    rfl
  · obtain ⟨n, b, rfl, b0, b1, n0, n1, k⟩ := h
    have big : ∀ x : Int, x ≤ n + 4000 → x < 2 ^ 4000 := fun x hx => by
      have : (2 : Int) ^ 3900 + 4000 ≤ 2 ^ 4000 := by decide
      omega
    refine ⟨_, (pss_cons (ps_set (i := 2) sc_total_of.nd rfl (Or.inl rfl) (pe_callP (ok_figures_of T) (hr.mono (by decide)) (by rfl) pass0 (pa_cons (pv 0) (pa_cons (pv 1) pa_nil))))
      (pss_cons (ps_while PassesOwn.never (pt_cmp (pc_neI (pe_callP (ok_figures_of T) (hr.mono (by decide)) (by rfl) pass0 (pa_cons (pe_op op_add (pv 0) (pv 2)) (pa_cons (pv 1) pa_nil))) (pv 2))) (pss_one (ps_aug (i := 2) sc_total_of.nd rfl (.inl rfl) pe_int ip_add)))
      (pss_one (ps_ret (pe_op op_add (pv 0) (pv 2)))))), ?_⟩
    refine ⟨_, rfl, _, rfl, n, b, rfl, b0, b1, big n (by omega), fun z hz => ?_⟩
    have z0 := isF_pos hz
    have z1 := isF_bound b0 3900 n1 hz
    refine ⟨fun m σ H1 => H1 = H ∧ ((m = 1 ∧ σ = [some (.int n), some (.int b), some (.int z)]) ∨ (m = 0 ∧ σ = [some (.int n), some (.int b), some (.int (z + 1))] ∧ IsF b (n + z) (z + 1))), ⟨1, rfl, .inl ⟨rfl, rfl⟩⟩, ?_⟩
    rintro m σ H1 ⟨rfl, ⟨rfl, rfl⟩ | ⟨rfl, rfl, h1⟩⟩
    · refine ⟨_, rfl, _, rfl, _, _, rfl, rfl, _, rfl, n + z, b, rfl, b0, b1, big _ (by omega), fun g hg => ?_⟩
      refine ⟨_, rfl, _, _, rfl, rfl, _, rfl, ifn (fun c => ?_) (fun c => ?_)⟩
      · have e : g = z + 1 := (fig_grow b0 n0 hz hg).resolve_left c
        subst e
        exact ⟨_, fun _ _ h => h, _, rfl, _, _, rfl, rfl, 0, by decide, rfl, .inr ⟨rfl, rfl, hg⟩⟩
      · subst c
        exact ⟨_, rfl, _, rfl, _, _, rfl, rfl, k _ (isTot_first b0 hz hg) (by omega)⟩
    · refine ⟨_, rfl, _, rfl, _, _, rfl, rfl, _, rfl, n + (z + 1), b, rfl, b0, b1, big _ (by omega), fun g hg => ?_⟩
      have h2 := fig_next b0 n0 hz h1
      have e0 : n + (z + 1) = n + z + 1 := by omega
      rw [e0] at hg
      have e : g = z + 1 := isF_eq b0 hg h2
      refine ⟨_, rfl, _, _, rfl, rfl, _, rfl, ifn (fun c => absurd e c) (fun c => ?_)⟩
      refine ⟨_, rfl, _, rfl, _, _, rfl, rfl, ?_⟩
      show Q (.int (n + (z + 1))) _
      rw [e0]
      exact k _ (isTot_second b0 n0 hz h1) (by omega)
end
theorem log2_small {i : Int} (h0 : 0 ≤ i) (h1 : i < 10 ^ 70) : i.natAbs.log2 < 1920 := by
  have h3 : i.natAbs < 2 ^ 300 := Nat.lt_of_lt_of_le (show i.natAbs < 10 ^ 70 by omega) (by decide)
  exact Nat.lt_of_lt_of_le (PySem.Flt.log2_lt_of (by decide) h3) (by decide)
/-! ### ints shown -/
theorem shownAll_ints : ∀ xs : List Int, PyData.shownAll (xs.map PyData.int) = xs.map fun i => (toString i : Str)
  | [] => rfl
  | x :: xs => by
    show (toString x : Str) :: PyData.shownAll (xs.map PyData.int) = _
    rw [shownAll_ints xs]
    rfl
theorem sum_short : ∀ (xs : List Int), (∀ x ∈ xs, x.natAbs < 10 ^ 70) → ((xs.map fun i => (toString i : Str)).map (·.length)).sum ≤ 71 * xs.length
  | [], _ => by simp
  | x :: xs, h => by
    have h1 := sum_short xs fun y hy => h y (List.mem_cons_of_mem _ hy)
    have h2 : (toString x : Str).length ≤ 71 := by
      have := int_text_length_le10 (k := 70) (by decide) (h x (List.mem_cons_self ..))
      have e : (Str.ofString (toString x)).length = (toString x : String).length := PySem.ofString_length _
      show (Str.ofString (toString x)).length ≤ 71
      omega
    simp only [List.map_cons, List.sum_cons, List.length_cons]
    omega
def Shows (d : PyData) : Prop := d.showable = true ∧ d.hasDict = false ∧ d.depth ≤ 40 ∧ d.shown.length ≤ sizeLine
theorem ints_showable : ∀ xs : List Int, (∀ x ∈ xs, x.natAbs < 10 ^ 70) → PyData.showableAll (xs.map PyData.int) = true ∧ PyData.hasDictAll (xs.map PyData.int) = false ∧ PyData.depthAll (xs.map PyData.int) ≤ 2
  | [], _ => ⟨rfl, rfl, by decide⟩
  | x :: xs, h => by
    obtain ⟨h1, h2, h3⟩ := ints_showable xs fun y hy => h y (List.mem_cons_of_mem _ hy)
    have hx : x.natAbs.log2 < 1920 := by
      have h4 : x.natAbs < 2 ^ 300 := Nat.lt_of_lt_of_le (h x (List.mem_cons_self ..)) (by decide)
      exact Nat.lt_of_lt_of_le (PySem.Flt.log2_lt_of (by decide) h4) (by decide)
    refine ⟨?_, ?_, ?_⟩
    · show (decide (x.natAbs.log2 < 1920) && PyData.showableAll (xs.map PyData.int)) = true
      rw [h1, decide_eq_true hx] <;> rfl
    · show (false || PyData.hasDictAll (xs.map PyData.int)) = false
      rw [h2] <;> rfl
    · show max (PyData.depth (.int x)) (PyData.depthAll (xs.map PyData.int)) ≤ 2
      have : PyData.depth (.int x) ≤ 1 := by first | exact Nat.le_refl _ | exact Nat.zero_le _ | decide
      omega
theorem shows_tuple {xs : List Int} (h : ∀ x ∈ xs, x.natAbs < 10 ^ 70) (hl : xs.length ≤ 10000) : Shows (.tuple (xs.map PyData.int)) := by
  obtain ⟨h1, h2, h3⟩ := ints_showable xs h
  refine ⟨h1, h2, ?_, ?_⟩
  · show PyData.depthAll (xs.map PyData.int) + 1 ≤ 40
    omega
  · show (tupleText (PyData.shownAll (xs.map PyData.int))).length ≤ sizeLine
    have h4 := tupleText_len_le (PyData.shownAll (xs.map PyData.int))
    rw [shownAll_ints] at h4 ⊢
    have h5 := sum_short xs h
    rw [List.length_map] at h4
    rw [sizeLine_eq]
    omega
theorem shows_list {xs : List Int} (h : ∀ x ∈ xs, x.natAbs < 10 ^ 70) (hl : xs.length ≤ 10000) : Shows (.list (xs.map PyData.int)) := by
  obtain ⟨h1, h2, h3⟩ := ints_showable xs h
  refine ⟨h1, h2, ?_, ?_⟩
  · show PyData.depthAll (xs.map PyData.int) + 1 ≤ 40
    omega
  · show (listText (PyData.shownAll (xs.map PyData.int))).length ≤ sizeLine
    have h4 := listText_len_le (PyData.shownAll (xs.map PyData.int))
    rw [shownAll_ints] at h4 ⊢
    have h5 := sum_short xs h
    rw [List.length_map] at h4
    rw [sizeLine_eq]
    omega
theorem dp_ints {K : PySem.W.Frag} {H : Hp} : ∀ xs : List Int, DpAll K H (xs.map V.int) (xs.map PyData.int)
  | [] => .nil
  | x :: xs => .cons (.int x) (dp_ints xs)
/-! ### wraps -/
/-- the first number that does not do -/
def faultL : List (Int × Int) → List Int → Nat → Option Nat
  | q :: qs, n :: ns, i => if q.1 ≤ n ∧ n ≤ q.2 then faultL qs ns (i + 1) else some i
  | _, _, _ => none
def faultV (a : Wr) (ns : List Int) : V := match faultL a.rng ns 0 with
  | some i => .int (i : Nat)
  | none => if a.kind = "coded" ∧ ns.getD 1 0 < ns.getD 0 0 then .int 1 else .non
theorem faultL_drop : ∀ (qs : List (Int × Int)) (ns : List Int) (j i : Nat), qs.length = ns.length → (∀ m q n, m < i → qs[m]? = some q → ns[m]? = some n → q.1 ≤ n ∧ n ≤ q.2) → i ≤ ns.length → faultL qs ns j = faultL (qs.drop i) (ns.drop i) (j + i)
  | _, _, j, 0, _, _, _ => rfl
  | [], [], j, i + 1, _, _, h => by simp at h
  | [], _ :: _, j, i + 1, h, _, _ => by simp at h
  | _ :: _, [], j, i + 1, h, _, _ => by simp at h
  | q :: qs, n :: ns, j, i + 1, hl, hg, hi => by
    have h0 := hg 0 q n (by omega) rfl rfl
    have ih := faultL_drop qs ns (j + 1) i (by simpa using hl) (fun m q' n' hm h1 h2 => hg (m + 1) q' n' (by omega) (by simpa using h1) (by simpa using h2)) (by simpa using hi)
    show (if q.1 ≤ n ∧ n ≤ q.2 then faultL qs ns (j + 1) else some j) = _
    rw [if_pos h0, ih]
    have e : j + 1 + i = j + (i + 1) := by omega
    rw [e]
    rfl
theorem drop_at {α : Type} : ∀ {xs : List α} {i : Nat} {x : α}, xs[i]? = some x → xs.drop i = x :: xs.drop (i + 1)
  | [], i, x, h => by simp at h
  | y :: ys, 0, x, h => by
    simp at h
    rw [h]
    rfl
  | y :: ys, i + 1, x, h => drop_at (xs := ys) (i := i) (by simpa using h)
def spFault (K : PySem.W.Frag) : Sp := fun vs H Q _ => ∃ (a : Wr) (ns : List Int) (p : Addr), vs = [.str a.kind, .ref p] ∧ (SqL K H p (ns.map V.int) ∨ SqT K H p (ns.map V.int)) ∧ ns.length = a.rng.length ∧ ∀ H', Same H H' → Q (faultV a ns) H'
section
variable {P : Program} {w : World} {K : PySem.W.Frag} {mg : Str → Option Value} {base : Heap}
theorem sq_same {H H' : Hp} {p : Addr} {xs : List V} (s : Same H H') (h : SqL K H p xs ∨ SqT K H p xs) : SqL K H' p xs ∨ SqT K H' p xs := by
  rcases h with h | h
  · exact .inl (s.seq h)
  · refine .inr ?_
    rcases h with (h | ⟨o, h⟩) | h
    · exact .inl (.inl (s _ _ h))
    · exact .inl (.inr ⟨o, s _ _ h⟩)
    · exact .inr h
theorem ok_fault_in (T : Tx w K mg) : Prom P w K mg base CX0 3 "fault_in" s_fault_in ["kind", "numbers"] (spFault K) := by
  refine Prom.of T.d_fault_in sc_fault_in (fun vs H Q E h => ?_) (fun _ _ _ _ _ _ us hl => match us, hl with | [_, _], _ => rfl) (fun f cdv A outer s H vs Q E hr h => ?_)
  · obtain ⟨a, ns, p, rfl, _⟩ := h
    rfl
  · obtain ⟨a, ns, p, rfl, hS, hl, k⟩ := h
    obtain ⟨es, en, kd⟩ := T.kd
    obtain ⟨b, xs, hb, hq, hp⟩ := T.rg a
    have hlx := hp.len
    have at_ : ∀ {H' : Hp} {i : Nat} {n : Int} {Q' : VK}, Same H H' → ns[i]? = some n → Q' (.int n) H' → rIxL K (.ref p) (.int (i : Nat)) H' Q' ∨ rIxT K (.ref p) (.int (i : Nat)) H' Q' := fun {H' i n Q'} hs hn hQ => by
      have en : (ns.map V.int)[i]? = some (V.int n) := by rw [List.getElem?_map, hn]; rfl
      rcases sq_same hs hS with z | z
      · exact .inl ⟨p, _, _, _, rfl, rfl, z, atI_nat en, hQ⟩
      · exact .inr ⟨p, _, _, _, rfl, rfl, z, atI_nat en, hQ⟩
    refine ⟨_, (pss_cons (ps_for PassesOwn.never (by rfl) (pi_enumT (by rfl) T.b_enumerate (pa_cons (pe_ix ix_kdict (pe_glob (v := .ref _) (by rfl) T.k_RANGES rfl) (pv 0) (fun _ _ => rfl)) pa_nil)) (pg_tup rfl (pgs_cons (pg_name (i := 2) sc_fault_in.nd rfl (Or.inl rfl)) (pgs_cons (pg_tup rfl (pgs_cons (pg_name (i := 3) sc_fault_in.nd rfl (Or.inl rfl)) (pgs_cons (pg_name (i := 4) sc_fault_in.nd rfl (Or.inl rfl)) pgs_nil))) pgs_nil))) (pss_one (ps_if (pt_not (pt_val (pe_callP (ok_is_between T) (hr.mono (by decide)) (by rfl) pass0 (pa_cons (pe_ix ix_any (pv 1) (pv 2) (fun _ _ => rfl)) (pa_cons (pv 3) (pa_cons (pv 4) pa_nil)))))) (pss_one (ps_ret (pv 2))) pss_nil)))
      (pss_one (ps_ret (pe_ifExp (PW.pt (pw_and (pt_cmpR op_eq (pv 0) pe_str (nomark _)) (pw_and1 (pt_cmp (pc_lt (pe_ix ix_any (pv 1) pe_int (fun _ _ => rfl)) (pe_ix ix_any (pv 1) pe_int (fun _ _ => rfl))))))) pe_int pe_non)))), ?_⟩
    refine ⟨_, rfl, _, _, .ref b, rfl, rfl, ⟨es, en, _, kd.at_, kd.lit, hb, rfl⟩, b, xs, rfl, hq _, ?_⟩
    refine for_it (walk_enumT (K := K) (a := b) (xs := xs)) (fun i σ H' => Same H H' ∧ (∀ m q n, m < i → a.rng[m]? = some q → ns[m]? = some n → q.1 ≤ n ∧ n ≤ q.2) ∧ ∃ v1 v2 v3, σ = [some (.str a.kind), some (.ref p), v1, v2, v3]) ⟨Same.refl H, fun m q n h => absurd h (Nat.not_lt_zero m), none, none, none, rfl⟩ (fun _ _ H' _ _ => hq H') ?_ ?_
    · rintro i x σ H1 H2 hi ⟨hs, hg, v1, v2, v3, rfl⟩ ⟨t, x1, x2, rfl, ht, rfl, e1, e2⟩
      cases e1
      obtain ⟨c, q, rfl, hq2, hc⟩ := hp.get e2
      have hin : i < ns.length := by omega
      obtain ⟨n, hn⟩ : ∃ n, ns[i]? = some n := ⟨_, List.getElem?_eq_getElem hin⟩
      have hs2 : Same H (upd H1 t (.tup [.int (i : Nat), .ref c])) := fun y o e => by rw [upd_ne (ne_of_none (hs _ _ e) ht)]; exact hs _ _ e
      refine ⟨t, _, rfl, SqT.of upd_same, rfl, _, _, rfl, _, _, rfl, ?_⟩
      refine ⟨c, _, rfl, hc _, rfl, _, _, rfl, _, _, rfl, rfl, rfl, ?_⟩
      refine ⟨_, rfl, _, rfl, at_ hs2 hn ⟨_, rfl, _, rfl, n, q.1, q.2, rfl, _, rfl, ifn (fun c => ?_) (fun c => ?_)⟩⟩
      · have e : faultV a ns = .int (i : Nat) := by
          unfold faultV
          rw [faultL_drop a.rng ns 0 i hl.symm hg (by omega)]
          have d1 : a.rng.drop i = q :: a.rng.drop (i + 1) := drop_at hq2
          have d2 : ns.drop i = n :: ns.drop (i + 1) := drop_at hn
          rw [d1, d2]
          show (match (if q.1 ≤ n ∧ n ≤ q.2 then _ else some (0 + i)) with
            | some i => V.int (i : Nat)
            | none => _) = _
          rw [if_neg c, Nat.zero_add]
        have k2 := k _ hs2
        rw [e] at k2
        exact ⟨_, rfl, k2⟩
      · refine ⟨hs2, fun m q' n' hm h1 h2 => ?_, _, _, _, rfl⟩
        by_cases z : m = i
        · subst z
          rw [hq2] at h1
          rw [hn] at h2
          cases h1
          cases h2
          exact c
        · exact hg m q' n' (by omega) h1 h2
    · rintro σ H' ⟨hs, hg, v1, v2, v3, rfl⟩
      have e0 : faultL a.rng ns 0 = none := by
        rw [faultL_drop a.rng ns 0 ns.length hl.symm (by rw [hlx, ← hl] at hg; exact hg) (Nat.le_refl _)]
        rw [List.drop_length]
        cases a.rng.drop ns.length <;> rfl
      have k2 := k _ hs
      unfold faultV at k2
      rw [e0] at k2
      refine ⟨_, rfl, rfl, _, rfl, ifd (fun c => ?_) (fun c => ?_)⟩
      · have ec : a.kind = "coded" := by
          have c : V.str a.kind = V.str "coded" := c
          injection c
        have l2 : a.rng.length = 2 := by
          cases a with
          | coded _ _ => rfl
          | pieces _ _ => rfl
          | cut _ _ => rfl
          | plus _ => exact absurd (show ("plus" : Str) = "coded" from ec) (by decide)
          | told _ => exact absurd (show ("told" : Str) = "coded" from ec) (by decide)
          | whole _ => exact absurd (show ("whole" : Str) = "coded" from ec) (by decide)
          | filled _ => exact absurd (show ("filled" : Str) = "coded" from ec) (by decide)
        rw [l2] at hl
        obtain ⟨n0, n1, rfl⟩ : ∃ n0 n1, ns = [n0, n1] := by
          match ns, hl with
          | [n0, n1], _ => exact ⟨n0, n1, rfl⟩
        refine ⟨_, rfl, at_ (i := 1) (n := n1) hs rfl ⟨_, rfl, at_ (i := 0) (n := n0) hs rfl ⟨_, _, rfl, rfl, _, rfl, ifd (fun c2 => ?_) (fun c2 => ?_)⟩⟩⟩
        · rw [if_pos ⟨ec, c2⟩] at k2
          exact k2
        · rw [if_neg (fun z => c2 z.2)] at k2
          exact k2
      · rw [if_neg (fun z => c (congrArg V.str z.1))] at k2
        exact k2
end
/-- the text of a wrap -/
def Wr.text (a : Wr) : Str := Txt.join " " (a.kind :: a.nums.map fun i => (toString i : Str))
def wrapFs (a : Wr) (p : Addr) : List (Str × V) := [("kind", .str a.kind), ("numbers", .ref p), ("words", .str a.text)]
/-- a wrap stands there -/
def WrapAt (K : PySem.W.Frag) (H : Hp) (q : Addr) (a : Wr) : Prop := ∃ dx p, H q = some (.ins (He.ga K "Wrap") dx (wrapFs a p)) ∧ H p = some (.tup (a.nums.map V.int))
theorem WrapAt.same {K : PySem.W.Frag} {H H' : Hp} {q : Addr} {a : Wr} (h : WrapAt K H q a) (s : Same H H') : WrapAt K H' q a := by
  obtain ⟨dx, p, h1, h2⟩ := h
  exact ⟨dx, p, s _ _ h1, s _ _ h2⟩
def spInit (K : PySem.W.Frag) : Sp := fun vs H Q _ => ∃ (a : Wr) (x p dx : Addr), vs = [.ref x, .str a.kind, .ref p] ∧ a.ok ∧ H x = some (.ins (He.ga K "Wrap") dx []) ∧ H p = some (.tup (a.nums.map V.int)) ∧
  ∀ H', Kp x H H' → H' x = some (.ins (He.ga K "Wrap") dx (wrapFs a p)) → Q .non H'
def spWrap (K : PySem.W.Frag) : Sp := fun vs H Q _ => ∃ a : Wr, vs = .str a.kind :: a.nums.map V.int ∧ a.ok ∧ ∀ q H', H q = none → Same H H' → WrapAt K H' q a → Q (.ref q) H'
theorem kind_len (a : Wr) : a.kind.length ≤ 6 := by
  cases a with
  | plus _ => exact (show ("plus" : Str).length ≤ 6 by decide)
  | told _ => exact (show ("told" : Str).length ≤ 6 by decide)
  | whole _ => exact (show ("whole" : Str).length ≤ 6 by decide)
  | pieces _ _ => exact (show ("pieces" : Str).length ≤ 6 by decide)
  | cut _ _ => exact (show ("cut" : Str).length ≤ 6 by decide)
  | coded _ _ => exact (show ("coded" : Str).length ≤ 6 by decide)
  | filled _ => exact (show ("filled" : Str).length ≤ 6 by decide)
theorem faultL_one {q : Int × Int} {n : Int} (h : q.1 ≤ n ∧ n ≤ q.2) : faultL [q] [n] 0 = none := by
  show (if q.1 ≤ n ∧ n ≤ q.2 then none else some 0) = none
  rw [if_pos h]
theorem faultL_two {q r : Int × Int} {n m : Int} (h : q.1 ≤ n ∧ n ≤ q.2) (h2 : r.1 ≤ m ∧ m ≤ r.2) : faultL [q, r] [n, m] 0 = none := by
  show (if q.1 ≤ n ∧ n ≤ q.2 then (if r.1 ≤ m ∧ m ≤ r.2 then none else some 1) else some 0) = none
  rw [if_pos h, if_pos h2]
theorem fault_ok {a : Wr} (h : a.ok) : faultV a a.nums = .non := by
  unfold faultV
  cases a with
  | plus c => rw [show faultL (Wr.plus c).rng (Wr.plus c).nums 0 = none from faultL_one h]; rfl
  | told c => rw [show faultL (Wr.told c).rng (Wr.told c).nums 0 = none from faultL_one h]; rfl
  | whole c => rw [show faultL (Wr.whole c).rng (Wr.whole c).nums 0 = none from faultL_one h]; rfl
  | filled c => rw [show faultL (Wr.filled c).rng (Wr.filled c).nums 0 = none from faultL_one h]; rfl
  | pieces m c => rw [show faultL (Wr.pieces m c).rng (Wr.pieces m c).nums 0 = none from faultL_two ⟨h.1, h.2.1⟩ h.2.2]; rfl
  | cut m c => rw [show faultL (Wr.cut m c).rng (Wr.cut m c).nums 0 = none from faultL_two ⟨h.1, h.2.1⟩ h.2.2]; rfl
  | coded m c =>
    simp only [Wr.ok] at h
    rw [show faultL (Wr.coded m c).rng (Wr.coded m c).nums 0 = none from faultL_two ⟨h.1, h.2.1⟩ ⟨show (1 : Int) ≤ c by omega, h.2.2.2⟩]
    exact if_neg (fun z => absurd (show c < m from z.2) (by omega))
section
variable {P : Program} {w : World} {K : PySem.W.Frag} {mg : Str → Option Value} {base : Heap}
theorem ok_Wrap (T : Tx w K mg) : PromC P w K mg base CX0 4 "Wrap" (spWrap K) := by
  refine PromC.star (sp0 := spInit K) T.mk_Wrap T.k_Wrap T.dm_Wrap___init__ sc_Wrap___init__ (fun _ _ _ _ _ _ _ _ => rfl) (fun _ _ _ _ _ _ _ _ _ _ => rfl) (fun f cdv A outer s H vs Q E hr h => ?_) (fun vs H Q E h => ?_)
  · obtain ⟨a, x, p, dx, rfl, ha, hx, hp, k⟩ := h
    obtain ⟨es, en, kd⟩ := T.kd
    obtain ⟨b, xs, hb, hq, hps⟩ := T.rg a
    refine ⟨_, (pss_cons (ps_if (PW.pt (pw_or (pt_not (pt_val (pe_callB call_isi (by rfl) T.b_isinstance (by decide +kernel) (pa_cons (pv 1) (pa_cons (pe_bltn (v := .ty "str") (by rfl) T.b_str (by decide +kernel) rfl) pa_nil))))) (pw_or1 (pt_cmpR (op_notIn_kd kd) (pv 1) (pe_glob (v := .ref _) (by rfl) T.k_RANGES rfl) (by rfl))))) (pss_one ps_never) pss_nil)
      (pss_cons (ps_if (pt_cmp (pc_neI (pe_callB call_len_seq (by rfl) T.b_len (by decide +kernel) (pa_cons (pv 2) pa_nil)) (pe_callB call_len_seq (by rfl) T.b_len (by decide +kernel) (pa_cons (pe_ix ix_kdict (pe_glob (v := .ref _) (by rfl) T.k_RANGES rfl) (pv 1) (fun _ _ => rfl)) pa_nil)))) (pss_one ps_never) pss_nil)
      (pss_cons (ps_set (i := 3) sc_Wrap___init__.nd rfl (Or.inl rfl) (pe_callP (ok_fault_in T) (hr.mono (by decide)) (by rfl) pass0 (pa_cons (pv 1) (pa_cons (pv 2) pa_nil))))
      (pss_cons (ps_if (pt_cmpR op_notN (pv 3) pe_non (nomark _)) (pss_one ps_never) pss_nil)
      (pss_cons (ps_fld (pv 0) (pv 1) rfl)
      (pss_cons (ps_fld (pv 0) (pv 2) rfl)
      (pss_one (ps_fld (pv 0) (pe_join pe_str (pe_lst (pa_cons (pv 1) (StX.pa_star (pe_lc (own := [("number", 4)]) (g := (gName 4)) (tt := tYes) (by rfl) sc_Wrap___init__.nd (pi_tup (pv 2)) (blkOk_by (own := [("number", 4)]) (N := ["self", "kind", "numbers", "fault", "number"]) (sc := defScope s_Wrap___init__) (by decide +kernel)) (fun _ _ _ _ _ => (pg_name (i := 4) sc_Wrap___init__.nd rfl (Or.inl rfl))) (fun _ _ _ _ _ => pts_nil) (fun _ _ _ _ _ => (pe_joined1 (pe_fmt (pv 4))))) pa_nil)))) rfl)))))))), ?_⟩
    refine ⟨_, rfl, _, _, _, _, true, rfl, .ty _, .base (.str _), kit_ty (by decide +kernel), true, rfl, iteF ?_⟩
    refine ⟨_, rfl, _, _, rfl, rfl, hb, _, rfl, iteF ?_⟩
    refine ⟨_, rfl, p, _, rfl, .inr (SqT.of hp), _, rfl, _, _, .ref b, rfl, rfl, ⟨es, en, _, kd.at_, kd.lit, hb, rfl⟩, b, xs, rfl, .inr (hq _), _, _, rfl, rfl, _, rfl, ifn (fun c => ?_) (fun _ => ?_)⟩
    · refine absurd ?_ c
      rw [List.length_map, hps.len, nums_len]
      first | done | rfl
    refine ⟨_, rfl, _, rfl, a, a.nums, p, rfl, .inr (SqT.of hp), nums_len, fun H1 s1 => ?_⟩
    rw [fault_ok ha]
    refine ⟨_, rfl, rfl, _, rfl, iteF ?_⟩
    refine ⟨_, rfl, _, rfl, x, _, dx, _, rfl, s1 _ _ hx, T.cl_Wrap, T.na_Wrap_kind, by decide, ?_⟩
    refine ⟨_, rfl, _, rfl, x, _, dx, _, rfl, upd_same, T.cl_Wrap, T.na_Wrap_numbers, (show (1 : Nat) < 1000 by decide), ?_⟩
    obtain ⟨H3, e3, hx3, kp3⟩ : ∃ H3, upd (upd H1 x (.ins (He.ga K "Wrap") dx (putF "kind" (.str a.kind) []))) x (.ins (He.ga K "Wrap") dx (putF "numbers" (.ref p) (putF "kind" (.str a.kind) []))) = H3 ∧ H3 x = some (.ins (He.ga K "Wrap") dx [("kind", .str a.kind), ("numbers", .ref p)]) ∧ Kp x H H3 :=
      ⟨_, rfl, upd_same, Kp.set (Kp.set fun b o n e => s1 _ _ e)⟩
    rw [e3]
    have npx : p ≠ x := fun z => by
      rw [z, hx] at hp
      cases hp
    have hp3 : H3 p = some (.tup (a.nums.map V.int)) := kp3 _ _ npx hp
    refine ⟨⟨_, rfl⟩, _, rfl, _, rfl, p, rfl, ⟨_, SqT.of hp3⟩, fun D hD => ?_⟩
    refine lc_tup (K := K) (a := p) (xs := a.nums.map V.int) (Pv := fun i H' => Same H3 H' ∧ H' D = some (.lst ((a.nums.take i).map fun z => V.str (toString z)))) ⟨fun z o e => by rw [upd_ne (ne_of_none e hD)]; exact e, upd_same⟩ (fun i H' _ h => SqT.of (h.1 _ _ hp3)) ?_ ?_
    · rintro i y H' hi ⟨hs, hl⟩
      obtain ⟨n, hn, rfl⟩ : ∃ n, a.nums[i]? = some n ∧ y = V.int n := by
        rw [List.getElem?_map] at hi
        cases e : a.nums[i]? with
        | none =>
          rw [e] at hi
          cases hi
        | some n =>
          rw [e] at hi
          exact ⟨n, rfl, (Option.some.inj hi).symm⟩
      have hb := nums_small ha n (List.mem_of_getElem? hn)
      have hlen : a.nums.length ≤ 2 := by cases a <;> simp [Wr.nums]
      have hil : i < a.nums.length := by
        rcases List.getElem?_eq_some_iff.mp hn with ⟨z, _⟩
        exact z
      refine ⟨rfl, _, rfl, .inr ⟨n, rfl, log2_small hb.1 (by omega), _, hl, ?_, fun z o e => ?_, ?_⟩⟩
      · rw [List.length_map, List.length_take, sizeLine_eq]
        omega
      · rw [upd_ne (ne_of_none e hD)]
        exact hs _ _ e
      · rw [upd_same, List.take_succ, hn, List.map_append]
        rfl
    · rintro H' ⟨hs, hl⟩
      rw [List.length_map, List.take_length] at hl
      refine ⟨D, _, rfl, .inr (SqL.of hl), ?_, fun l hl2 => ?_⟩
      · have hlen : a.nums.length ≤ 2 := by cases a <;> simp [Wr.nums]
        simp
        rw [sizeLine_eq]
        omega
      have el : V.str a.kind :: (a.nums.map (fun z => V.str (toString z)) ++ []) = (a.kind :: a.nums.map fun z => (toString z : Str)).map V.str := by simp
      refine ⟨_, l, a.kind :: a.nums.map (fun z => (toString z : Str)), rfl, rfl, .inl (SqL.of (by rw [← el]; exact upd_same)), ?_, ?_⟩
      · have h1 := sum_short a.nums (fun z hz => by have := nums_small ha z hz; omega)
        have hlen : a.nums.length ≤ 2 := by cases a <;> simp [Wr.nums]
        have hk : a.kind.length ≤ 6 := kind_len a
        simp only [List.map_cons, List.sum_cons, List.length_cons, List.length_map]
        have h2 : (" " : Str).length = 1 := by decide
        rw [h2]
        omega
      · have hx5 : (upd H' l (.lst (V.str a.kind :: (a.nums.map (fun z => V.str (toString z)) ++ [])))) x = some (.ins (He.ga K "Wrap") dx [("kind", .str a.kind), ("numbers", .ref p)]) := by rw [upd_ne (ne_of_none (hs _ _ hx3) hl2)]; exact hs _ _ hx3
        refine ⟨_, rfl, x, _, dx, _, rfl, hx5, T.cl_Wrap, T.na_Wrap_words, (show (2 : Nat) < 1000 by decide), ?_⟩
        refine k _ (fun z o n e => ?_) upd_same
        have ez := hs _ _ (kp3 z o n e)
        rw [upd_ne n, upd_ne (ne_of_none ez hl2)]
        exact ez
  · obtain ⟨a, rfl, ha, k⟩ := h
    refine ⟨_, _, rfl, ?_, fun x dx p hx hdx nd np npd hp => ?_⟩
    · rw [List.length_map, sizeLine_eq]
      have hlen : a.nums.length ≤ 2 := by cases a <;> simp [Wr.nums]
      omega
    refine ⟨a, x, p, dx, rfl, ha, by rw [upd_ne (Ne.symm np)]; exact upd_same, upd_same, fun H' kp hx' => ⟨rfl, ?_⟩⟩
    refine k x H' hx (fun z o e => ?_) ⟨dx, p, hx', kp _ _ np upd_same⟩
    have n1 : z ≠ x := ne_of_none e hx
    refine kp _ _ n1 ?_
    rw [upd_ne (ne_of_none e hp), upd_ne n1, upd_ne (ne_of_none e hdx)]
    exact e
end
/-! ### sizes by wraps -/
def spBegun : Sp := fun vs H Q _ => ∃ n m : Int, vs = [.int n, .int m] ∧ 1 ≤ m ∧ m ≤ 1000 ∧ Q (.int (beg n m)) H
def spPieces : Sp := fun vs H Q _ => ∃ n m c b : Int, vs = [.int n, .int m, .int c, .int b] ∧ 0 ≤ n ∧ 1 ≤ m ∧ m ≤ 60 ∧ 0 ≤ c ∧ c ≤ 60 ∧ 2 ≤ b ∧ b ≤ 256 ∧ Q (.int ((Wr.pieces m c).gr b n)) H
def spGrown (K : PySem.W.Frag) : Sp := fun vs H Q _ => ∃ (a : Wr) (q : Addr) (n b : Int), vs = [.ref q, .int n, .int b] ∧ WrapAt K H q a ∧ a.ok ∧ 2 ≤ b ∧ b ≤ 256 ∧ 0 ≤ n ∧ n < 2 ^ 3000 ∧ Q (.int (a.gr b n)) H
def spSize (K : PySem.W.Frag) : Sp := fun vs H Q _ => ∃ (a : Wr) (q : Addr) (n b : Int), vs = [.ref q, .int n, .int b] ∧ WrapAt K H q a ∧ a.ok ∧ 2 ≤ b ∧ b ≤ 256 ∧ 0 ≤ n ∧ n ≤ 10 ^ 60 - 1 ∧ Q (.int (a.gr b n)) H
theorem ifs_neg {x y : Str} {A B : Prop} (h : x ≠ y) (hB : B) : if decide (V.str x = V.str y) = true then A else B := by
  rw [decide_eq_false (fun z => h (by injection z)), if_neg Bool.false_ne_true]
  exact hB
theorem nums_first {a : Wr} : ∃ m, (a.nums.map V.int)[0]? = some (.int m) ∧ ∃ l, atI (a.nums.map V.int) (-1) = some (.int l) := by
  cases a <;> exact ⟨_, rfl, _, rfl⟩
section
variable {P : Program} {w : World} {K : PySem.W.Frag} {mg : Str → Option Value} {base : Heap}
theorem ok_begun (T : Tx w K mg) : Prom P w K mg base CX0 1 "begun" s_begun ["length", "whole"] spBegun := by
  refine Prom.of T.d_begun sc_begun (fun vs H Q E h => ?_) (fun _ _ _ _ _ _ us hl => match us, hl with | [_, _], _ => rfl) (fun f cdv A outer s H vs Q E hr h => ?_)
  · obtain ⟨n, m, rfl, _⟩ := h
    rfl
  · obtain ⟨n, m, rfl, h0, h1, k⟩ := h
    refine ⟨_, (pss_one (ps_ret (pe_op op_fdiv (pe_op op_sub (pe_op op_add (pv 0) (pv 1)) pe_int) (pv 1)))), ?_⟩
    exact ⟨_, rfl, _, rfl, _, _, rfl, rfl, _, _, rfl, rfl, _, rfl, _, _, rfl, rfl, ⟨by omega, by omega⟩, k⟩
theorem ok_in_pieces (T : Tx w K mg) : Prom P w K mg base CX0 2 "in_pieces" s_in_pieces ["length", "most", "constant", "base"] spPieces := by
  refine Prom.of T.d_in_pieces sc_in_pieces (fun vs H Q E h => ?_) (fun _ _ _ _ _ _ us hl => match us, hl with | [_, _, _, _], _ => rfl) (fun f cdv A outer s H vs Q E hr h => ?_)
  · obtain ⟨n, m, c, b, rfl, _⟩ := h
    rfl
  · obtain ⟨n, m, c, b, rfl, n0, m0, m1, c0, c1, b0, b1, k⟩ := h
    have f1 := fig_small (b := b) (m := m) b0 m1
    have f2 := figF_pos (b := b) (n := m) b0
    have r0 := Int.emod_nonneg n (show m ≠ 0 by omega)
    have r1 := Int.emod_lt_of_pos n (show 0 < m by omega)
    have big : ∀ x : Int, x ≤ 60 → x < 2 ^ 4000 := fun x hx => Int.lt_of_le_of_lt hx (by decide)
    refine ⟨_, (pss_cons (ps_set (i := 4) sc_in_pieces.nd rfl (Or.inl rfl) (pe_op op_mul (pe_op op_fdiv (pv 0) (pv 1)) (pe_op op_add (pe_op op_add (pv 1) (pv 2)) (pe_callP (ok_figures_of T) (hr.mono (by decide)) (by rfl) pass0 (pa_cons (pv 1) (pa_cons (pv 3) pa_nil))))))
      (pss_cons (ps_set (i := 5) sc_in_pieces.nd rfl (Or.inl rfl) (pe_op op_mod (pe_callTy call_int1 (by rfl) T.b_int (by decide +kernel) (pa_cons (pv 0) pa_nil)) (pv 1)))
      (pss_cons (ps_if (pt_cmp (pc_gt (pv 5) pe_int)) (pss_one (ps_set (i := 4) sc_in_pieces.nd rfl (Or.inl rfl) (pe_op op_add (pe_op op_add (pe_op op_add (pv 4) (pv 5)) (pv 2)) (pe_callP (ok_figures_of T) (hr.mono (by decide)) (by rfl) pass0 (pa_cons (pv 5) (pa_cons (pv 3) pa_nil)))))) pss_nil)
      (pss_one (ps_ret (pe_op op_add (pe_op op_add (pv 4) (pv 2)) pe_int)))))), ?_⟩
    refine ⟨_, rfl, _, rfl, _, _, rfl, rfl, ⟨by omega, by omega⟩, _, rfl, _, rfl, _, _, rfl, rfl, _, rfl, _, rfl, m, b, rfl, b0, b1, big m m1, fun g hg => ?_⟩
    have eg := figF_eq b0 hg
    subst eg
    refine ⟨_, _, rfl, rfl, _, _, rfl, rfl, .inr ⟨by omega, by omega⟩, ?_⟩
    refine ⟨_, rfl, .inl ⟨_, rfl, _, rfl, _, _, rfl, rfl, (show 0 < m by omega), ?_⟩⟩
    simp only [Wr.gr] at k
    refine ⟨_, rfl, _, _, rfl, rfl, _, rfl, ifd (fun h1 => ?_) (fun h1 => ?_)⟩
    · have h1 : 0 < n % m := h1
      rw [if_pos h1] at k
      refine ⟨_, rfl, _, rfl, _, _, rfl, rfl, _, rfl, _, _, rfl, rfl, _, rfl, _, rfl, n % m, b, rfl, b0, b1, big _ (by omega), fun g hg => ?_⟩
      have eg := figF_eq b0 hg
      subst eg
      refine ⟨_, _, rfl, rfl, ?_⟩
      refine ⟨_, rfl, _, rfl, _, _, rfl, rfl, _, _, rfl, rfl, ?_⟩
      have e : n / m * (m + c + figF b m) + n % m + c + figF b (n % m) + c + 1 = n / m * (m + c + figF b m) + (n % m + c + figF b (n % m)) + c + 1 := by omega
      rw [← e] at k
      exact k
    · have h1 : ¬ 0 < n % m := h1
      rw [if_neg h1] at k
      refine ⟨_, rfl, _, rfl, _, _, rfl, rfl, _, _, rfl, rfl, ?_⟩
      have e : n / m * (m + c + figF b m) + 0 + c + 1 = n / m * (m + c + figF b m) + c + 1 := by omega
      rw [e] at k
      exact k
theorem ok_Wrap_grown (T : Tx w K mg) : PromM P w K mg base CX0 3 "Wrap" "grown" ["self", "length", "base"] (spGrown K) := by
  refine PromM.of T.cl_Wrap T.me_Wrap_grown T.dm_Wrap_grown sc_Wrap_grown (fun vs H Q E h => ?_) (fun _ _ _ _ _ _ us hl => match us, hl with | [_, _, _], _ => rfl) (fun f cdv A outer s H vs Q E hr h => ?_)
  · obtain ⟨a, q, n, b, rfl, _⟩ := h
    rfl
  · obtain ⟨a, q, n, b, rfl, ⟨dx, p, hq, hp⟩, ha, b0, b1, n0, n1, k⟩ := h
    obtain ⟨x1, hm, x2, hl⟩ := nums_first (a := a)
    refine ⟨_, (pss_cons (ps_par (i := 3) (j := 4) (by rfl) sc_Wrap_grown.nd rfl rfl (by decide) rfl rfl (pa_cons (pe_ix ix_tup (pe_fld (pv 0) rfl) pe_int (fun _ _ => rfl)) (pa_cons (pe_ix ix_tup (pe_fld (pv 0) rfl) (pe_un un_neg pe_int) (fun _ _ => rfl)) pa_nil)) (by rfl))
      (pss_cons (ps_if (pt_cmpR op_eq (pe_fld (pv 0) rfl) pe_str (nomark _)) (pss_one (ps_ret (pe_op op_add (pv 1) (pv 3)))) pss_nil)
      (pss_cons (ps_if (pt_cmpR op_eq (pe_fld (pv 0) rfl) pe_str (nomark _)) (pss_one (ps_ret (pe_op op_add (pe_op op_add (pv 1) (pv 3)) (pe_callP (ok_figures_of T) (hr.mono (by decide)) (by rfl) pass0 (pa_cons (pv 1) (pa_cons (pv 2) pa_nil)))))) pss_nil)
      (pss_cons (ps_if (pt_cmpR op_eq (pe_fld (pv 0) rfl) pe_str (nomark _)) (pss_one (ps_ret (pe_callP (ok_total_of T) (hr.mono (by decide)) (by rfl) pass0 (pa_cons (pe_op op_add (pv 1) (pv 3)) (pa_cons (pv 2) pa_nil))))) pss_nil)
      (pss_cons (ps_if (pt_cmpR op_eq (pe_fld (pv 0) rfl) pe_str (nomark _)) (pss_one (ps_ret (pe_op op_mul (pe_callP (ok_begun T) (hr.mono (by decide)) (by rfl) pass0 (pa_cons (pv 1) (pa_cons (pv 3) pa_nil))) (pv 4)))) pss_nil)
      (pss_cons (ps_if (pt_cmpR op_eq (pe_fld (pv 0) rfl) pe_str (nomark _)) (pss_one (ps_ret (pe_op op_mul (pe_callP (ok_begun T) (hr.mono (by decide)) (by rfl) pass0 (pa_cons (pv 1) (pa_cons (pv 3) pa_nil))) (pv 3)))) pss_nil)
      (pss_cons (ps_if (pt_cmpR op_eq (pe_fld (pv 0) rfl) pe_str (nomark _)) (pss_one (ps_ret (pe_op op_add (pv 1) (pe_op op_mul (pe_callP (ok_begun T) (hr.mono (by decide)) (by rfl) pass0 (pa_cons (pv 1) (pa_cons (pv 3) pa_nil))) (pv 4))))) pss_nil)
      (pss_one (ps_ret (pe_callP (ok_in_pieces T) (hr.mono (by decide)) (by rfl) pass0 (pa_cons (pv 1) (pa_cons (pv 3) (pa_cons (pv 4) (pa_cons (pv 2) pa_nil)))))))))))))), ?_⟩
    refine ⟨_, rfl, q, _, dx, _, _, rfl, hq, T.cl_Wrap, T.na_Wrap_numbers, rfl, p, _, _, _, rfl, rfl, SqT.of hp, atI_nat (j := 0) hm, ?_⟩
    have big : ∀ x : Int, x ≤ n → x < 2 ^ 4000 := fun x hx => Int.lt_of_lt_of_le (show x < 2 ^ 3000 by omega) (by decide)
    refine ⟨_, rfl, q, _, dx, _, _, rfl, hq, T.cl_Wrap, T.na_Wrap_numbers, rfl, _, rfl, p, _, _, _, rfl, rfl, SqT.of hp, hl, _, _, rfl, ?_⟩
    cases a with
    | plus c =>
      have e1 : c = x1 := by injection hm with z; injection z
      have e2 : c = x2 := by injection hl with z; injection z
      subst e1 e2
      simp only [Wr.ok] at ha
      refine ⟨_, rfl, q, _, dx, _, _, rfl, hq, T.cl_Wrap, T.na_Wrap_kind, rfl, rfl, _, rfl, ifd_pos rfl ?_⟩
      exact ⟨_, rfl, _, rfl, _, _, rfl, rfl, k⟩
    | told c =>
      have e1 : c = x1 := by injection hm with z; injection z
      have e2 : c = x2 := by injection hl with z; injection z
      subst e1 e2
      simp only [Wr.ok] at ha
      refine ⟨_, rfl, q, _, dx, _, _, rfl, hq, T.cl_Wrap, T.na_Wrap_kind, rfl, rfl, _, rfl, ifs_neg (show ("told" : Str) ≠ "plus" by decide) ?_⟩
      refine ⟨_, rfl, q, _, dx, _, _, rfl, hq, T.cl_Wrap, T.na_Wrap_kind, rfl, rfl, _, rfl, ifd_pos rfl ?_⟩
      refine ⟨_, rfl, _, rfl, _, _, rfl, rfl, _, rfl, _, rfl, n, b, rfl, b0, b1, big n (by omega), fun g hg => ?_⟩
      have eg := figF_eq b0 hg
      subst eg
      exact ⟨_, _, rfl, rfl, k⟩
    | whole c =>
      have e1 : c = x1 := by injection hm with z; injection z
      have e2 : c = x2 := by injection hl with z; injection z
      subst e1 e2
      simp only [Wr.ok] at ha
      refine ⟨_, rfl, q, _, dx, _, _, rfl, hq, T.cl_Wrap, T.na_Wrap_kind, rfl, rfl, _, rfl, ifs_neg (show ("whole" : Str) ≠ "plus" by decide) ?_⟩
      refine ⟨_, rfl, q, _, dx, _, _, rfl, hq, T.cl_Wrap, T.na_Wrap_kind, rfl, rfl, _, rfl, ifs_neg (show ("whole" : Str) ≠ "told" by decide) ?_⟩
      refine ⟨_, rfl, q, _, dx, _, _, rfl, hq, T.cl_Wrap, T.na_Wrap_kind, rfl, rfl, _, rfl, ifd_pos rfl ?_⟩
      refine ⟨_, rfl, _, rfl, _, _, rfl, rfl, _, rfl, n + c, b, rfl, b0, b1, by omega, Int.lt_of_lt_of_le (show n + c < 2 ^ 3000 + 1001 by omega) (by decide), fun s hs _ => ?_⟩
      have eg := totF_eq b0 (show 0 ≤ n + c by omega) hs
      subst eg
      exact k
    | pieces m c =>
      have e1 : m = x1 := by injection hm with z; injection z
      have e2 : c = x2 := by injection hl with z; injection z
      subst e1 e2
      simp only [Wr.ok] at ha
      refine ⟨_, rfl, q, _, dx, _, _, rfl, hq, T.cl_Wrap, T.na_Wrap_kind, rfl, rfl, _, rfl, ifs_neg (show ("pieces" : Str) ≠ "plus" by decide) ?_⟩
      refine ⟨_, rfl, q, _, dx, _, _, rfl, hq, T.cl_Wrap, T.na_Wrap_kind, rfl, rfl, _, rfl, ifs_neg (show ("pieces" : Str) ≠ "told" by decide) ?_⟩
      refine ⟨_, rfl, q, _, dx, _, _, rfl, hq, T.cl_Wrap, T.na_Wrap_kind, rfl, rfl, _, rfl, ifs_neg (show ("pieces" : Str) ≠ "whole" by decide) ?_⟩
      refine ⟨_, rfl, q, _, dx, _, _, rfl, hq, T.cl_Wrap, T.na_Wrap_kind, rfl, rfl, _, rfl, ifs_neg (show ("pieces" : Str) ≠ "coded" by decide) ?_⟩
      refine ⟨_, rfl, q, _, dx, _, _, rfl, hq, T.cl_Wrap, T.na_Wrap_kind, rfl, rfl, _, rfl, ifs_neg (show ("pieces" : Str) ≠ "filled" by decide) ?_⟩
      refine ⟨_, rfl, q, _, dx, _, _, rfl, hq, T.cl_Wrap, T.na_Wrap_kind, rfl, rfl, _, rfl, ifs_neg (show ("pieces" : Str) ≠ "cut" by decide) ?_⟩
      exact ⟨_, rfl, _, rfl, _, rfl, _, rfl, n, m, c, b, rfl, n0, by omega, by omega, by omega, by omega, b0, b1, k⟩
    | cut m c =>
      have e1 : m = x1 := by injection hm with z; injection z
      have e2 : c = x2 := by injection hl with z; injection z
      subst e1 e2
      simp only [Wr.ok] at ha
      refine ⟨_, rfl, q, _, dx, _, _, rfl, hq, T.cl_Wrap, T.na_Wrap_kind, rfl, rfl, _, rfl, ifs_neg (show ("cut" : Str) ≠ "plus" by decide) ?_⟩
      refine ⟨_, rfl, q, _, dx, _, _, rfl, hq, T.cl_Wrap, T.na_Wrap_kind, rfl, rfl, _, rfl, ifs_neg (show ("cut" : Str) ≠ "told" by decide) ?_⟩
      refine ⟨_, rfl, q, _, dx, _, _, rfl, hq, T.cl_Wrap, T.na_Wrap_kind, rfl, rfl, _, rfl, ifs_neg (show ("cut" : Str) ≠ "whole" by decide) ?_⟩
      refine ⟨_, rfl, q, _, dx, _, _, rfl, hq, T.cl_Wrap, T.na_Wrap_kind, rfl, rfl, _, rfl, ifs_neg (show ("cut" : Str) ≠ "coded" by decide) ?_⟩
      refine ⟨_, rfl, q, _, dx, _, _, rfl, hq, T.cl_Wrap, T.na_Wrap_kind, rfl, rfl, _, rfl, ifs_neg (show ("cut" : Str) ≠ "filled" by decide) ?_⟩
      refine ⟨_, rfl, q, _, dx, _, _, rfl, hq, T.cl_Wrap, T.na_Wrap_kind, rfl, rfl, _, rfl, ifd_pos rfl ?_⟩
      exact ⟨_, rfl, _, rfl, _, rfl, n, m, rfl, by omega, by omega, _, rfl, _, _, rfl, rfl, .inr ⟨by omega, by omega⟩, _, _, rfl, rfl, k⟩
    | coded m c =>
      have e1 : m = x1 := by injection hm with z; injection z
      have e2 : c = x2 := by injection hl with z; injection z
      subst e1 e2
      simp only [Wr.ok] at ha
      refine ⟨_, rfl, q, _, dx, _, _, rfl, hq, T.cl_Wrap, T.na_Wrap_kind, rfl, rfl, _, rfl, ifs_neg (show ("coded" : Str) ≠ "plus" by decide) ?_⟩
      refine ⟨_, rfl, q, _, dx, _, _, rfl, hq, T.cl_Wrap, T.na_Wrap_kind, rfl, rfl, _, rfl, ifs_neg (show ("coded" : Str) ≠ "told" by decide) ?_⟩
      refine ⟨_, rfl, q, _, dx, _, _, rfl, hq, T.cl_Wrap, T.na_Wrap_kind, rfl, rfl, _, rfl, ifs_neg (show ("coded" : Str) ≠ "whole" by decide) ?_⟩
      refine ⟨_, rfl, q, _, dx, _, _, rfl, hq, T.cl_Wrap, T.na_Wrap_kind, rfl, rfl, _, rfl, ifd_pos rfl ?_⟩
      exact ⟨_, rfl, _, rfl, n, m, rfl, by omega, by omega, _, rfl, _, _, rfl, rfl, .inr ⟨by omega, by omega⟩, k⟩
    | filled m =>
      have e1 : m = x1 := by injection hm with z; injection z
      have e2 : m = x2 := by injection hl with z; injection z
      subst e1 e2
      simp only [Wr.ok] at ha
      refine ⟨_, rfl, q, _, dx, _, _, rfl, hq, T.cl_Wrap, T.na_Wrap_kind, rfl, rfl, _, rfl, ifs_neg (show ("filled" : Str) ≠ "plus" by decide) ?_⟩
      refine ⟨_, rfl, q, _, dx, _, _, rfl, hq, T.cl_Wrap, T.na_Wrap_kind, rfl, rfl, _, rfl, ifs_neg (show ("filled" : Str) ≠ "told" by decide) ?_⟩
      refine ⟨_, rfl, q, _, dx, _, _, rfl, hq, T.cl_Wrap, T.na_Wrap_kind, rfl, rfl, _, rfl, ifs_neg (show ("filled" : Str) ≠ "whole" by decide) ?_⟩
      refine ⟨_, rfl, q, _, dx, _, _, rfl, hq, T.cl_Wrap, T.na_Wrap_kind, rfl, rfl, _, rfl, ifs_neg (show ("filled" : Str) ≠ "coded" by decide) ?_⟩
      refine ⟨_, rfl, q, _, dx, _, _, rfl, hq, T.cl_Wrap, T.na_Wrap_kind, rfl, rfl, _, rfl, ifd_pos rfl ?_⟩
      exact ⟨_, rfl, _, rfl, n, m, rfl, by omega, by omega, _, rfl, _, _, rfl, rfl, .inr ⟨by omega, by omega⟩, k⟩
end
/-! ### stacks -/
def stepF (p : Int) : Wr → Int
  | .coded m c => p * m * c
  | .pieces m _ => p * m
  | .cut m _ => p * m
  | .filled m => p * m
  | _ => p
def fineL (ws : List Wr) : Int := ws.foldl stepF 1
inductive WrapsAt (K : PySem.W.Frag) (H : Hp) : List V → List Wr → Prop where
  | nil : WrapsAt K H [] []
  | cons {a : Addr} {x : Wr} {xs : List V} {ws : List Wr} (h : WrapAt K H a x) (r : WrapsAt K H xs ws) : WrapsAt K H (.ref a :: xs) (x :: ws)
theorem WrapsAt.len {K : PySem.W.Frag} {H : Hp} {xs : List V} {ws : List Wr} (h : WrapsAt K H xs ws) : xs.length = ws.length := by
  induction h with
  | nil => rfl
  | cons _ _ ih => exact congrArg (· + 1) ih
theorem WrapsAt.get {K : PySem.W.Frag} {H : Hp} {xs : List V} {ws : List Wr} (h : WrapsAt K H xs ws) : ∀ {i : Nat} {x : V}, xs[i]? = some x → ∃ (a : Addr) (y : Wr), x = .ref a ∧ ws[i]? = some y ∧ WrapAt K H a y := by
  induction h with
  | nil =>
    intro i x e
    simp at e
  | cons h _ ih =>
    intro i x e
    cases i with
    | zero =>
      simp at e
      exact ⟨_, _, e.symm, rfl, h⟩
    | succ i => exact ih (by simpa using e)
theorem WrapsAt.same {K : PySem.W.Frag} {H H' : Hp} {xs : List V} {ws : List Wr} (h : WrapsAt K H xs ws) (s : Same H H') : WrapsAt K H' xs ws := by
  induction h with
  | nil => exact .nil
  | cons h _ ih => exact .cons (h.same s) ih
theorem WrapsAt.snoc {K : PySem.W.Frag} {H : Hp} {xs : List V} {ws : List Wr} {a : Addr} {x : Wr} (h : WrapsAt K H xs ws) (hx : WrapAt K H a x) : WrapsAt K H (xs ++ [.ref a]) (ws ++ [x]) := by
  induction h with
  | nil => exact .cons hx .nil
  | cons h _ ih => exact .cons h ih
def stkFs (b : Int) (t : Addr) (ws : List Wr) : List (Str × V) := [("base", .int b), ("wraps", .ref t), ("fineness", .int (fineL ws))]
structure StkOk (b : Int) (ws : List Wr) : Prop where
  b0 : 2 ≤ b
  b1 : b ≤ 256
  ok : ∀ a ∈ ws, a.ok
  len : ws.length ≤ 6
  fine : fineL ws ≤ 120
/-- a stack stands there -/
def StkAt (K : PySem.W.Frag) (H : Hp) (q : Addr) (b : Int) (ws : List Wr) : Prop := ∃ dx t xs, H q = some (.ins (He.ga K "Stack") dx (stkFs b t ws)) ∧ H t = some (.tup xs) ∧ WrapsAt K H xs ws
theorem StkAt.same {K : PySem.W.Frag} {H H' : Hp} {q : Addr} {b : Int} {ws : List Wr} (h : StkAt K H q b ws) (s : Same H H') : StkAt K H' q b ws := by
  obtain ⟨dx, t, xs, h1, h2, h3⟩ := h
  exact ⟨dx, t, xs, s _ _ h1, s _ _ h2, h3.same s⟩
/-- the size behind all wraps -/
noncomputable def grS (b : Int) (ws : List Wr) (n : Int) : Int := ws.foldl (fun m a => a.gr b m) n
def spFine (K : PySem.W.Frag) : Sp := fun vs H Q _ => ∃ (t : Addr) (xs : List V) (ws : List Wr), vs = [.ref t] ∧ (SqL K H t xs ∨ SqT K H t xs) ∧ WrapsAt K H xs ws ∧ (∀ a ∈ ws, a.ok) ∧ ∀ H', Same H H' → Q (.int (fineL ws)) H'
def spWraps (K : PySem.W.Frag) : Sp := fun vs H Q _ => ∃ (t : Addr) (xs : List V) (ws : List Wr), vs = [.ref t, .int 6] ∧ SqT K H t xs ∧ WrapsAt K H xs ws ∧ ws.length ≤ 6 ∧ ∀ H', Same H H' → Q .non H'
section
variable {P : Program} {w : World} {K : PySem.W.Frag} {mg : Str → Option Value} {base : Heap}
theorem up {H' : Hp} {z : Addr} {o : HO} (hz : H' z = none) : Same H' (upd H' z o) := fun y u e => by
  rw [upd_ne (ne_of_none e hz)]
  exact e
theorem ifb_pos {b : Bool} {A B : Prop} (h : b = true) (a : A) : if b = true then A else B := by
  rw [if_pos h]
  exact a
theorem ifb_neg {b : Bool} {A B : Prop} (h : b = false) (a : B) : if b = true then A else B := by
  rw [h, if_neg Bool.false_ne_true]
  exact a
theorem ok_fineness_of (T : Tx w K mg) : Prom P w K mg base CX0 1 "fineness_of" s_fineness_of ["wraps"] (spFine K) := by
  refine Prom.of T.d_fineness_of sc_fineness_of (fun vs H Q E h => ?_) (fun _ _ _ _ _ _ us hl => match us, hl with | [_], _ => rfl) (fun f cdv A outer s H vs Q E hr h => ?_)
  · obtain ⟨t, xs, ws, rfl, _⟩ := h
    rfl
  · obtain ⟨t, xs, ws, rfl, hT, hw, ha, k⟩ := h
    have inv : True := trivial
    refine ⟨_, (pss_cons (ps_set (i := 1) sc_fineness_of.nd rfl (Or.inl rfl) pe_int)
      (pss_cons (ps_for PassesOwn.never (by rfl) (pi_seq (pv 0)) (pg_name (i := 2) sc_fineness_of.nd rfl (Or.inl rfl)) (pss_one (ps_if (pt_cmpR op_eq (pe_fld (pv 2) rfl) pe_str (nomark _)) (pss_one (ps_set (i := 1) sc_fineness_of.nd rfl (Or.inl rfl) (pe_op op_mul (pe_op op_mul (pv 1) (pe_ix ix_tup (pe_fld (pv 2) rfl) pe_int (fun _ _ => rfl))) (pe_ix ix_tup (pe_fld (pv 2) rfl) pe_int (fun _ _ => rfl))))) (pss_one (ps_if (pt_cmpR op_in_seq (pe_fld (pv 2) rfl) (pe_tup (pa_cons pe_str (pa_cons pe_str (pa_cons pe_str pa_nil)))) (by rfl)) (pss_one (ps_set (i := 1) sc_fineness_of.nd rfl (Or.inl rfl) (pe_op op_mul (pv 1) (pe_ix ix_tup (pe_fld (pv 2) rfl) pe_int (fun _ _ => rfl))))) pss_nil)))))
      (pss_one (ps_ret (pv 1))))), ?_⟩
    rcases hT with hT | hT
    · have hT' : ∀ {H' : Hp}, Same H H' → SqL K H' t xs := fun {H'} hs => hs.seq hT
      refine .inl ⟨_, rfl, t, rfl, ⟨_, hT⟩, for_it (walk_list (K := K) (a := t) (xs := xs)) (fun i σ H' => Same H H' ∧ ∃ v, σ = [some (.ref t), some (.int ((ws.take i).foldl stepF 1)), v]) ⟨Same.refl H, none, rfl⟩ (fun _ _ H' _ h => hT' h.1) ?_ ?_⟩
      · rintro i x σ H1 H2 hi ⟨hs, v, rfl⟩ ⟨rfl, hx⟩
        obtain ⟨q, a, rfl, hq, hw1⟩ := hw.get hx
        have hok := ha a (List.mem_of_getElem? hq)
        obtain ⟨dx, p, h1, h2⟩ := hw1.same hs
        have et : (ws.take (i + 1)).foldl stepF 1 = stepF ((ws.take i).foldl stepF 1) a := by
          rw [List.take_succ, hq, List.foldl_append]
          rfl
        generalize (ws.take i).foldl stepF 1 = m at et ⊢
        rw [et]
        have num : ∀ {j : Nat} {n : Int}, a.nums[j]? = some n → atI (a.nums.map V.int) ((j : Nat) : Int) = some (.int n) := fun {j n} hj => atI_nat (by rw [List.getElem?_map, hj]; rfl)
        refine ⟨_, rfl, q, _, dx, _, _, rfl, h1, T.cl_Wrap, T.na_Wrap_kind, rfl, rfl, _, rfl, ?_⟩
        cases a with
        | coded m' c =>
          refine ifd_pos rfl ?_
          simp only [Wr.ok] at hok
          refine ⟨_, rfl, _, rfl, q, _, dx, _, _, rfl, h1, T.cl_Wrap, T.na_Wrap_numbers, rfl, p, _, _, _, rfl, rfl, SqT.of h2, num (j := 0) rfl, _, _, rfl, rfl, .inr ⟨by omega, by omega⟩, ?_⟩
          refine ⟨_, rfl, q, _, dx, _, _, rfl, h1, T.cl_Wrap, T.na_Wrap_numbers, rfl, p, _, _, _, rfl, rfl, SqT.of h2, num (j := 1) rfl, _, _, rfl, rfl, .inr ⟨by omega, by omega⟩, ?_⟩
          exact ⟨hs, _, rfl⟩
        | plus c =>
          refine ifs_neg (show ("plus" : Str) ≠ "coded" by decide) ?_
          refine ⟨_, rfl, q, _, dx, _, _, rfl, h1, T.cl_Wrap, T.na_Wrap_kind, rfl, (by show 3 ≤ sizeLine; decide), fun t2 ht2 => ?_⟩
          refine ⟨t2, _, rfl, .inr (SqT.of upd_same), rfl, rfl, _, rfl, ifb_neg (by kernel_rfl) ?_⟩
          exact ⟨hs.trans (up ht2), _, rfl⟩
        | told c =>
          refine ifs_neg (show ("told" : Str) ≠ "coded" by decide) ?_
          refine ⟨_, rfl, q, _, dx, _, _, rfl, h1, T.cl_Wrap, T.na_Wrap_kind, rfl, (by show 3 ≤ sizeLine; decide), fun t2 ht2 => ?_⟩
          refine ⟨t2, _, rfl, .inr (SqT.of upd_same), rfl, rfl, _, rfl, ifb_neg (by kernel_rfl) ?_⟩
          exact ⟨hs.trans (up ht2), _, rfl⟩
        | whole c =>
          refine ifs_neg (show ("whole" : Str) ≠ "coded" by decide) ?_
          refine ⟨_, rfl, q, _, dx, _, _, rfl, h1, T.cl_Wrap, T.na_Wrap_kind, rfl, (by show 3 ≤ sizeLine; decide), fun t2 ht2 => ?_⟩
          refine ⟨t2, _, rfl, .inr (SqT.of upd_same), rfl, rfl, _, rfl, ifb_neg (by kernel_rfl) ?_⟩
          exact ⟨hs.trans (up ht2), _, rfl⟩
        | pieces m' c =>
          refine ifs_neg (show ("pieces" : Str) ≠ "coded" by decide) ?_
          simp only [Wr.ok] at hok
          refine ⟨_, rfl, q, _, dx, _, _, rfl, h1, T.cl_Wrap, T.na_Wrap_kind, rfl, (by show 3 ≤ sizeLine; decide), fun t2 ht2 => ?_⟩
          refine ⟨t2, _, rfl, .inr (SqT.of upd_same), rfl, rfl, _, rfl, ifb_pos (by kernel_rfl) ?_⟩
          have g1 := (up ht2 (o := .tup [V.str "pieces", V.str "cut", V.str "filled"])) _ _ h1
          have g2 := (up ht2 (o := .tup [V.str "pieces", V.str "cut", V.str "filled"])) _ _ h2
          refine ⟨_, rfl, _, rfl, q, _, dx, _, _, rfl, g1, T.cl_Wrap, T.na_Wrap_numbers, rfl, p, _, _, _, rfl, rfl, SqT.of g2, num (j := 0) rfl, _, _, rfl, rfl, .inr ⟨by omega, by omega⟩, ?_⟩
          exact ⟨hs.trans (up ht2), _, rfl⟩
        | cut m' c =>
          refine ifs_neg (show ("cut" : Str) ≠ "coded" by decide) ?_
          simp only [Wr.ok] at hok
          refine ⟨_, rfl, q, _, dx, _, _, rfl, h1, T.cl_Wrap, T.na_Wrap_kind, rfl, (by show 3 ≤ sizeLine; decide), fun t2 ht2 => ?_⟩
          refine ⟨t2, _, rfl, .inr (SqT.of upd_same), rfl, rfl, _, rfl, ifb_pos (by kernel_rfl) ?_⟩
          have g1 := (up ht2 (o := .tup [V.str "pieces", V.str "cut", V.str "filled"])) _ _ h1
          have g2 := (up ht2 (o := .tup [V.str "pieces", V.str "cut", V.str "filled"])) _ _ h2
          refine ⟨_, rfl, _, rfl, q, _, dx, _, _, rfl, g1, T.cl_Wrap, T.na_Wrap_numbers, rfl, p, _, _, _, rfl, rfl, SqT.of g2, num (j := 0) rfl, _, _, rfl, rfl, .inr ⟨by omega, by omega⟩, ?_⟩
          exact ⟨hs.trans (up ht2), _, rfl⟩
        | filled m' =>
          refine ifs_neg (show ("filled" : Str) ≠ "coded" by decide) ?_
          simp only [Wr.ok] at hok
          refine ⟨_, rfl, q, _, dx, _, _, rfl, h1, T.cl_Wrap, T.na_Wrap_kind, rfl, (by show 3 ≤ sizeLine; decide), fun t2 ht2 => ?_⟩
          refine ⟨t2, _, rfl, .inr (SqT.of upd_same), rfl, rfl, _, rfl, ifb_pos (by kernel_rfl) ?_⟩
          have g1 := (up ht2 (o := .tup [V.str "pieces", V.str "cut", V.str "filled"])) _ _ h1
          have g2 := (up ht2 (o := .tup [V.str "pieces", V.str "cut", V.str "filled"])) _ _ h2
          refine ⟨_, rfl, _, rfl, q, _, dx, _, _, rfl, g1, T.cl_Wrap, T.na_Wrap_numbers, rfl, p, _, _, _, rfl, rfl, SqT.of g2, num (j := 0) rfl, _, _, rfl, rfl, .inr ⟨by omega, by omega⟩, ?_⟩
          exact ⟨hs.trans (up ht2), _, rfl⟩
      · rintro σ H' ⟨hs, v, rfl⟩
        rw [hw.len, List.take_length]
        exact ⟨_, rfl, k _ hs⟩
    · have hT' : ∀ {H' : Hp}, Same H H' → SqT K H' t xs := fun {H'} hs => by
        rcases hT with (h | ⟨o, h⟩) | h
        · exact .inl (.inl (hs _ _ h))
        · exact .inl (.inr ⟨o, hs _ _ h⟩)
        · exact .inr h
      refine .inr ⟨_, rfl, t, rfl, ⟨_, hT⟩, for_it (walk_tup (K := K) (a := t) (xs := xs)) (fun i σ H' => Same H H' ∧ ∃ v, σ = [some (.ref t), some (.int ((ws.take i).foldl stepF 1)), v]) ⟨Same.refl H, none, rfl⟩ (fun _ _ H' _ h => hT' h.1) ?_ ?_⟩
      · rintro i x σ H1 H2 hi ⟨hs, v, rfl⟩ ⟨rfl, hx⟩
        obtain ⟨q, a, rfl, hq, hw1⟩ := hw.get hx
        have hok := ha a (List.mem_of_getElem? hq)
        obtain ⟨dx, p, h1, h2⟩ := hw1.same hs
        have et : (ws.take (i + 1)).foldl stepF 1 = stepF ((ws.take i).foldl stepF 1) a := by
          rw [List.take_succ, hq, List.foldl_append]
          rfl
        generalize (ws.take i).foldl stepF 1 = m at et ⊢
        rw [et]
        have num : ∀ {j : Nat} {n : Int}, a.nums[j]? = some n → atI (a.nums.map V.int) ((j : Nat) : Int) = some (.int n) := fun {j n} hj => atI_nat (by rw [List.getElem?_map, hj]; rfl)
        refine ⟨_, rfl, q, _, dx, _, _, rfl, h1, T.cl_Wrap, T.na_Wrap_kind, rfl, rfl, _, rfl, ?_⟩
        cases a with
        | coded m' c =>
          refine ifd_pos rfl ?_
          simp only [Wr.ok] at hok
          refine ⟨_, rfl, _, rfl, q, _, dx, _, _, rfl, h1, T.cl_Wrap, T.na_Wrap_numbers, rfl, p, _, _, _, rfl, rfl, SqT.of h2, num (j := 0) rfl, _, _, rfl, rfl, .inr ⟨by omega, by omega⟩, ?_⟩
          refine ⟨_, rfl, q, _, dx, _, _, rfl, h1, T.cl_Wrap, T.na_Wrap_numbers, rfl, p, _, _, _, rfl, rfl, SqT.of h2, num (j := 1) rfl, _, _, rfl, rfl, .inr ⟨by omega, by omega⟩, ?_⟩
          exact ⟨hs, _, rfl⟩
        | plus c =>
          refine ifs_neg (show ("plus" : Str) ≠ "coded" by decide) ?_
          refine ⟨_, rfl, q, _, dx, _, _, rfl, h1, T.cl_Wrap, T.na_Wrap_kind, rfl, (by show 3 ≤ sizeLine; decide), fun t2 ht2 => ?_⟩
          refine ⟨t2, _, rfl, .inr (SqT.of upd_same), rfl, rfl, _, rfl, ifb_neg (by kernel_rfl) ?_⟩
          exact ⟨hs.trans (up ht2), _, rfl⟩
        | told c =>
          refine ifs_neg (show ("told" : Str) ≠ "coded" by decide) ?_
          refine ⟨_, rfl, q, _, dx, _, _, rfl, h1, T.cl_Wrap, T.na_Wrap_kind, rfl, (by show 3 ≤ sizeLine; decide), fun t2 ht2 => ?_⟩
          refine ⟨t2, _, rfl, .inr (SqT.of upd_same), rfl, rfl, _, rfl, ifb_neg (by kernel_rfl) ?_⟩
          exact ⟨hs.trans (up ht2), _, rfl⟩
        | whole c =>
          refine ifs_neg (show ("whole" : Str) ≠ "coded" by decide) ?_
          refine ⟨_, rfl, q, _, dx, _, _, rfl, h1, T.cl_Wrap, T.na_Wrap_kind, rfl, (by show 3 ≤ sizeLine; decide), fun t2 ht2 => ?_⟩
          refine ⟨t2, _, rfl, .inr (SqT.of upd_same), rfl, rfl, _, rfl, ifb_neg (by kernel_rfl) ?_⟩
          exact ⟨hs.trans (up ht2), _, rfl⟩
        | pieces m' c =>
          refine ifs_neg (show ("pieces" : Str) ≠ "coded" by decide) ?_
          simp only [Wr.ok] at hok
          refine ⟨_, rfl, q, _, dx, _, _, rfl, h1, T.cl_Wrap, T.na_Wrap_kind, rfl, (by show 3 ≤ sizeLine; decide), fun t2 ht2 => ?_⟩
          refine ⟨t2, _, rfl, .inr (SqT.of upd_same), rfl, rfl, _, rfl, ifb_pos (by kernel_rfl) ?_⟩
          have g1 := (up ht2 (o := .tup [V.str "pieces", V.str "cut", V.str "filled"])) _ _ h1
          have g2 := (up ht2 (o := .tup [V.str "pieces", V.str "cut", V.str "filled"])) _ _ h2
          refine ⟨_, rfl, _, rfl, q, _, dx, _, _, rfl, g1, T.cl_Wrap, T.na_Wrap_numbers, rfl, p, _, _, _, rfl, rfl, SqT.of g2, num (j := 0) rfl, _, _, rfl, rfl, .inr ⟨by omega, by omega⟩, ?_⟩
          exact ⟨hs.trans (up ht2), _, rfl⟩
        | cut m' c =>
          refine ifs_neg (show ("cut" : Str) ≠ "coded" by decide) ?_
          simp only [Wr.ok] at hok
          refine ⟨_, rfl, q, _, dx, _, _, rfl, h1, T.cl_Wrap, T.na_Wrap_kind, rfl, (by show 3 ≤ sizeLine; decide), fun t2 ht2 => ?_⟩
          refine ⟨t2, _, rfl, .inr (SqT.of upd_same), rfl, rfl, _, rfl, ifb_pos (by kernel_rfl) ?_⟩
          have g1 := (up ht2 (o := .tup [V.str "pieces", V.str "cut", V.str "filled"])) _ _ h1
          have g2 := (up ht2 (o := .tup [V.str "pieces", V.str "cut", V.str "filled"])) _ _ h2
          refine ⟨_, rfl, _, rfl, q, _, dx, _, _, rfl, g1, T.cl_Wrap, T.na_Wrap_numbers, rfl, p, _, _, _, rfl, rfl, SqT.of g2, num (j := 0) rfl, _, _, rfl, rfl, .inr ⟨by omega, by omega⟩, ?_⟩
          exact ⟨hs.trans (up ht2), _, rfl⟩
        | filled m' =>
          refine ifs_neg (show ("filled" : Str) ≠ "coded" by decide) ?_
          simp only [Wr.ok] at hok
          refine ⟨_, rfl, q, _, dx, _, _, rfl, h1, T.cl_Wrap, T.na_Wrap_kind, rfl, (by show 3 ≤ sizeLine; decide), fun t2 ht2 => ?_⟩
          refine ⟨t2, _, rfl, .inr (SqT.of upd_same), rfl, rfl, _, rfl, ifb_pos (by kernel_rfl) ?_⟩
          have g1 := (up ht2 (o := .tup [V.str "pieces", V.str "cut", V.str "filled"])) _ _ h1
          have g2 := (up ht2 (o := .tup [V.str "pieces", V.str "cut", V.str "filled"])) _ _ h2
          refine ⟨_, rfl, _, rfl, q, _, dx, _, _, rfl, g1, T.cl_Wrap, T.na_Wrap_numbers, rfl, p, _, _, _, rfl, rfl, SqT.of g2, num (j := 0) rfl, _, _, rfl, rfl, .inr ⟨by omega, by omega⟩, ?_⟩
          exact ⟨hs.trans (up ht2), _, rfl⟩
      · rintro σ H' ⟨hs, v, rfl⟩
        rw [hw.len, List.take_length]
        exact ⟨_, rfl, k _ hs⟩
end
theorem gr_pow {b : Int} {a : Wr} (hb : 2 ≤ b) (h : a.ok) {n : Int} {k : Nat} (hk : 12 ≤ k) (hn : 0 ≤ n) (hn2 : n < 2 ^ k) : 0 ≤ a.gr b n ∧ a.gr b n < 2 ^ (k + 8) := by
  have g := gr_le hb h hn
  have e : (2 : Int) ^ (k + 8) = 2 ^ k * 256 := by rw [Int.pow_add]; rfl
  have e2 : (2 : Int) ^ 12 ≤ 2 ^ k := pow_mono (by decide) hk
  have e3 : (2 : Int) ^ 12 = 4096 := by decide
  omega
theorem grS_pow {b : Int} (hb : 2 ≤ b) : ∀ (ws : List Wr), (∀ a ∈ ws, a.ok) → ∀ {n : Int} {k : Nat}, 12 ≤ k → 0 ≤ n → n < 2 ^ k → 0 ≤ grS b ws n ∧ grS b ws n < 2 ^ (k + 8 * ws.length)
  | [], _, n, k, _, h0, h1 => ⟨h0, h1⟩
  | a :: ws, ha, n, k, hk, h0, h1 => by
    have g := gr_pow hb (ha a (List.mem_cons_self ..)) hk h0 h1
    have ih := grS_pow hb ws (fun x hx => ha x (List.mem_cons_of_mem _ hx)) (show 12 ≤ k + 8 by omega) g.1 g.2
    refine ⟨ih.1, ?_⟩
    have e : k + 8 + 8 * ws.length = k + 8 * (a :: ws).length := by simp; omega
    rw [e] at ih
    exact ih.2
def spStack0 (K : PySem.W.Frag) : Sp := fun vs H Q _ => ∃ (x p dx : Addr) (b : Int) (xs : List V) (ws : List Wr), vs = [.ref x, .int b, .ref p] ∧ StkOk b ws ∧ H x = some (.ins (He.ga K "Stack") dx []) ∧ H p = some (.tup xs) ∧ WrapsAt K H xs ws ∧
  ∀ H', Kp x H H' → H' x = some (.ins (He.ga K "Stack") dx (stkFs b p ws)) → Q .non H'
def spStack (K : PySem.W.Frag) : Sp := fun vs H Q _ => ∃ (b : Int) (xs : List V) (ws : List Wr), vs = .int b :: xs ∧ StkOk b ws ∧ WrapsAt K H xs ws ∧ ∀ q H', H q = none → Same H H' → StkAt K H' q b ws → Q (.ref q) H'
def spSGrown (K : PySem.W.Frag) : Sp := fun vs H Q _ => ∃ (q : Addr) (b : Int) (ws : List Wr) (n : Int), vs = [.ref q, .int n] ∧ StkAt K H q b ws ∧ StkOk b ws ∧ 0 ≤ n ∧ n < 2 ^ 1000 ∧ Q (.int (grS b ws n)) H
def spSSize (K : PySem.W.Frag) : Sp := fun vs H Q _ => ∃ (q : Addr) (b : Int) (ws : List Wr) (n : Int), vs = [.ref q, .int n] ∧ StkAt K H q b ws ∧ StkOk b ws ∧ 0 ≤ n ∧ n ≤ 10 ^ 60 - 1 ∧ Q (.int (grS b ws n)) H
def spIsWrap (K : PySem.W.Frag) : Sp := fun vs H Q _ => ∃ (q : Addr) (a : Wr), vs = [.ref q] ∧ WrapAt K H q a ∧ Q .non H
def spIsStack (K : PySem.W.Frag) : Sp := fun vs H Q _ => ∃ (q : Addr) (b : Int) (ws : List Wr), vs = [.ref q] ∧ StkAt K H q b ws ∧ Q .non H
def spAdd (K : PySem.W.Frag) : Sp := fun vs H Q _ => ∃ (q r : Addr) (b : Int) (ws : List Wr) (a : Wr), vs = [.ref q, .ref r] ∧ StkAt K H q b ws ∧ WrapAt K H r a ∧ ws.length < 6 ∧ StkOk b (ws ++ [a]) ∧ ∀ q' H', H q' = none → Same H H' → StkAt K H' q' b (ws ++ [a]) → Q (.ref q') H'
section
variable {P : Program} {w : World} {K : PySem.W.Frag} {mg : Str → Option Value} {base : Heap}
theorem ok_check_wraps (T : Tx w K mg) : Prom P w K mg base CX0 1 "check_wraps" s_check_wraps ["values", "most"] (spWraps K) := by
  refine Prom.of T.d_check_wraps sc_check_wraps (fun vs H Q E h => ?_) (fun _ _ _ _ _ _ us hl => match us, hl with | [_, _], _ => rfl) (fun f cdv A outer s H vs Q E hr h => ?_)
  · obtain ⟨t, xs, ws, rfl, _⟩ := h
    rfl
  · obtain ⟨t, xs, ws, rfl, hT, hw, hl, k⟩ := h
    have hT' : ∀ {H' : Hp}, Same H H' → SqT K H' t xs := fun {H'} hs => by
      rcases hT with (h | ⟨o, h⟩) | h
      · exact .inl (.inl (hs _ _ h))
      · exact .inl (.inr ⟨o, hs _ _ h⟩)
      · exact .inr h
    have hlx := hw.len
    refine ⟨_, (pss_cons (ps_if (pt_cmp (pc_gt (pe_callB call_len_seq (by rfl) T.b_len (by decide +kernel) (pa_cons (pv 0) pa_nil)) (pv 1))) (pss_one ps_never) pss_nil)
      (pss_one (ps_for PassesOwn.never (by rfl) (pi_enumT (by rfl) T.b_enumerate (pa_cons (pv 0) pa_nil)) (pg_tup rfl (pgs_cons (pg_name (i := 2) sc_check_wraps.nd rfl (Or.inl rfl)) (pgs_cons (pg_name (i := 3) sc_check_wraps.nd rfl (Or.inl rfl)) pgs_nil))) (pss_one (ps_if (pt_not (pt_val (pe_callB call_isi (by rfl) T.b_isinstance (by decide +kernel) (pa_cons (pv 3) (pa_cons (pe_glob (v := .ref _) (by rfl) T.k_Wrap rfl) pa_nil))))) (pss_one ps_never) pss_nil))))), ?_⟩
    refine ⟨_, rfl, t, xs, rfl, .inr hT, _, rfl, _, _, rfl, rfl, _, rfl, ifd (fun c => absurd c (by show ¬ (6 : Int) < (xs.length : Int); omega)) (fun _ => ?_)⟩
    refine ⟨_, rfl, t, xs, rfl, hT, for_it (walk_enumT (K := K) (a := t) (xs := xs)) (fun i σ H' => Same H H' ∧ ∃ v1 v2, σ = [some (.ref t), some (.int 6), v1, v2]) ⟨Same.refl H, none, none, rfl⟩ (fun _ _ H' _ h => hT' h.1) ?_ ?_⟩
    · rintro i x σ H1 H2 hi ⟨hs, v1, v2, rfl⟩ ⟨t2, x1, x2, rfl, ht2, rfl, e1, e2⟩
      cases e1
      obtain ⟨q, a, rfl, hq, hw1⟩ := hw.get e2
      have hs2 := hs.trans (up (o := .tup [.int (i : Nat), .ref q]) ht2)
      obtain ⟨dx, p, h1, h2⟩ := hw1.same hs2
      refine ⟨t2, _, rfl, SqT.of upd_same, rfl, _, _, rfl, _, _, rfl, rfl, ?_⟩
      refine ⟨_, rfl, _, _, _, _, true, rfl, .own _, T.is_Wrap.ty h1, kit_self, true, rfl, iteF ?_⟩
      exact ⟨hs2, _, _, rfl⟩
    · rintro σ H' ⟨hs, v1, v2, rfl⟩
      exact k _ hs
theorem ok_Stack (T : Tx w K mg) : PromC P w K mg base CX0 4 "Stack" (spStack K) := by
  refine PromC.star (sp0 := spStack0 K) T.mk_Stack T.k_Stack T.dm_Stack___init__ sc_Stack___init__ (fun _ _ _ _ _ _ _ _ => rfl) (fun _ _ _ _ _ _ _ _ _ _ => rfl) (fun f cdv A outer s H vs Q E hr h => ?_) (fun vs H Q E h => ?_)
  · obtain ⟨x, p, dx, b, xs, ws, rfl, so, hx, hp, hw, k⟩ := h
    refine ⟨_, (pss_cons (ps_expr (pe_callP (ok_check_base T) (hr.mono (by decide)) (by rfl) pass0 (pa_cons (pv 1) pa_nil)))
      (pss_cons (ps_expr (pe_callP (ok_check_wraps T) (hr.mono (by decide)) (by rfl) pass0 (pa_cons (pv 2) (pa_cons (pe_gint T.c_MOST_WRAPS) pa_nil))))
      (pss_cons (ps_set (i := 3) sc_Stack___init__.nd rfl (Or.inl rfl) (pe_callP (ok_fineness_of T) (hr.mono (by decide)) (by rfl) pass0 (pa_cons (pv 2) pa_nil)))
      (pss_cons (ps_if (pt_cmp (pc_gt (pv 3) (pe_gint T.c_MOST_FINENESS))) (pss_one ps_never) pss_nil)
      (pss_cons (ps_fld (pv 0) (pv 1) rfl)
      (pss_cons (ps_fld (pv 0) (pv 2) rfl)
      (pss_one (ps_fld (pv 0) (pv 3) rfl)))))))), ?_⟩
    refine ⟨_, rfl, b, rfl, so.b0, so.b1, ?_⟩
    refine ⟨_, rfl, p, xs, ws, rfl, SqT.of hp, hw, so.len, fun H1 s1 => ?_⟩
    refine ⟨_, rfl, p, xs, ws, rfl, .inr (SqT.of (s1 _ _ hp)), hw.same s1, so.ok, fun H2 s2 => ?_⟩
    have sf := so.fine
    refine ⟨_, rfl, _, _, rfl, rfl, _, rfl, ifd (fun c => absurd c (by show ¬ (120 : Int) < fineL ws; omega)) (fun _ => ?_)⟩
    refine ⟨_, rfl, _, rfl, x, _, dx, _, rfl, s2 _ _ (s1 _ _ hx), T.cl_Stack, T.na_Stack_base, (show (0 : Nat) < 1000 by decide), ?_⟩
    refine ⟨_, rfl, _, rfl, x, _, dx, _, rfl, upd_same, T.cl_Stack, T.na_Stack_wraps, (show (1 : Nat) < 1000 by decide), ?_⟩
    refine ⟨_, rfl, _, rfl, x, _, dx, _, rfl, upd_same, T.cl_Stack, T.na_Stack_fineness, (show (2 : Nat) < 1000 by decide), ?_⟩
    exact k _ (Kp.set (Kp.set (Kp.set fun z o n e => s2 _ _ (s1 _ _ e)))) upd_same
  · obtain ⟨b, xs, ws, rfl, so, hw, k⟩ := h
    have hl : xs.length ≤ sizeLine := by
      rw [hw.len, sizeLine_eq]
      have := so.len
      omega
    refine ⟨_, _, rfl, hl, fun x dx p hx hdx nd np npd hp => ?_⟩
    have same : Same H (upd (upd (upd H dx (.own x)) x (.ins (He.ga K "Stack") dx [])) p (.tup xs)) := fun z o e => by
      rw [upd_ne (ne_of_none e hp), upd_ne (ne_of_none e hx), upd_ne (ne_of_none e hdx)]
      exact e
    refine ⟨x, p, dx, b, xs, ws, rfl, so, by rw [upd_ne (Ne.symm np)]; exact upd_same, upd_same, hw.same same, fun H' kp hx' => ⟨rfl, ?_⟩⟩
    have s2 : Same H H' := fun z o e => kp _ _ (ne_of_none e hx) (same _ _ e)
    exact k x H' hx s2 ⟨dx, p, xs, hx', kp _ _ np upd_same, hw.same s2⟩
theorem ok_Stack_grown (T : Tx w K mg) : PromM P w K mg base CX0 4 "Stack" "grown" ["self", "length"] (spSGrown K) := by
  refine PromM.of T.cl_Stack T.me_Stack_grown T.dm_Stack_grown sc_Stack_grown (fun vs H Q E h => ?_) (fun _ _ _ _ _ _ us hl => match us, hl with | [_, _], _ => rfl) (fun f cdv A outer s H vs Q E hr h => ?_)
  · obtain ⟨q, b, ws, n, rfl, _⟩ := h
    rfl
  · obtain ⟨q, b, ws, n, rfl, ⟨dx, t, xs, hq, ht, hw⟩, so, n0, n1, k⟩ := h
    refine ⟨_, (pss_cons (ps_for PassesOwn.never (by rfl) (pi_tup (pe_fld (pv 0) rfl)) (pg_name (i := 2) sc_Stack_grown.nd rfl (Or.inl rfl)) (pss_one (ps_set (i := 1) sc_Stack_grown.nd rfl (Or.inl rfl) (pe_methP (ok_Wrap_grown T) (hr.mono (by decide)) pass0 (pv 2) (pa_cons (pv 1) (pa_cons (pe_fld (pv 0) rfl) pa_nil))))))
      (pss_one (ps_ret (pv 1)))), ?_⟩
    refine ⟨_, rfl, q, _, dx, _, _, rfl, hq, T.cl_Stack, T.na_Stack_wraps, rfl, t, rfl, ⟨_, SqT.of ht⟩, for_it (walk_tup (K := K) (a := t) (xs := xs)) (fun i σ H' => H' = H ∧ ∃ v, σ = [some (.ref q), some (.int (grS b (ws.take i) n)), v]) ⟨rfl, none, rfl⟩ (fun _ _ H' _ h => by rw [h.1]; exact SqT.of ht) ?_ ?_⟩
    · rintro i x σ H1 H2 hi ⟨rfl, v, rfl⟩ ⟨rfl, hx⟩
      obtain ⟨r, a, rfl, hr2, hw1⟩ := hw.get hx
      have hok := so.ok a (List.mem_of_getElem? hr2)
      obtain ⟨dx2, p, h1, h2⟩ := id hw1
      have et : grS b (ws.take (i + 1)) n = a.gr b (grS b (ws.take i) n) := by
        unfold grS
        rw [List.take_succ, hr2, List.foldl_append]
        rfl
      have hl := so.len
      have hlt : (ws.take i).length ≤ 6 := by
        rw [List.length_take]
        omega
      have bd := grS_pow so.b0 (ws.take i) (fun z hz => so.ok z (List.mem_of_mem_take hz)) (show 12 ≤ 1000 by decide) n0 n1
      have bd2 : grS b (ws.take i) n < 2 ^ 3000 := Int.lt_of_lt_of_le bd.2 (pow_mono (by decide) (by omega))
      rw [et]
      generalize grS b (ws.take i) n = m at bd bd2 ⊢
      refine ⟨_, rfl, r, dx2, _, rfl, h1, rfl, _, rfl, _, rfl, q, _, dx, _, _, rfl, hq, T.cl_Stack, T.na_Stack_base, rfl, a, r, m, b, rfl, hw1, hok, so.b0, so.b1, bd.1, bd2, ?_⟩
      exact ⟨rfl, _, rfl⟩
    · rintro σ H' ⟨rfl, v, rfl⟩
      rw [hw.len, List.take_length]
      exact ⟨_, rfl, k⟩
end
section
variable {P : Program} {w : World} {K : PySem.W.Frag} {mg : Str → Option Value} {base : Heap}
theorem ok_check_wrap (T : Tx w K mg) : Prom P w K mg base CX0 1 "check_wrap" s_check_wrap ["value"] (spIsWrap K) := by
  refine Prom.of T.d_check_wrap sc_check_wrap (fun vs H Q E h => ?_) (fun _ _ _ _ _ _ us hl => match us, hl with | [_], _ => rfl) (fun f cdv A outer s H vs Q E hr h => ?_)
  · obtain ⟨q, a, rfl, _⟩ := h
    rfl
  · obtain ⟨q, a, rfl, ⟨dx, p, h1, h2⟩, k⟩ := h
    refine ⟨_, (pss_one (ps_if (pt_not (pt_val (pe_callB call_isi (by rfl) T.b_isinstance (by decide +kernel) (pa_cons (pv 0) (pa_cons (pe_glob (v := .ref _) (by rfl) T.k_Wrap rfl) pa_nil))))) (pss_one ps_never) pss_nil)), ?_⟩
    exact ⟨_, rfl, _, _, _, _, true, rfl, .own _, T.is_Wrap.ty h1, kit_self, true, rfl, iteF k⟩
end
section
variable {P : Program} {w : World} {K : PySem.W.Frag} {mg : Str → Option Value} {base : Heap}
theorem ok_check_stack (T : Tx w K mg) : Prom P w K mg base CX0 1 "check_stack" s_check_stack ["value"] (spIsStack K) := by
  refine Prom.of T.d_check_stack sc_check_stack (fun vs H Q E h => ?_) (fun _ _ _ _ _ _ us hl => match us, hl with | [_], _ => rfl) (fun f cdv A outer s H vs Q E hr h => ?_)
  · obtain ⟨q, b, ws, rfl, _⟩ := h
    rfl
  · obtain ⟨q, b, ws, rfl, ⟨dx, t, xs, h1, h2, h3⟩, k⟩ := h
    refine ⟨_, (pss_one (ps_if (pt_not (pt_val (pe_callB call_isi (by rfl) T.b_isinstance (by decide +kernel) (pa_cons (pv 0) (pa_cons (pe_glob (v := .ref _) (by rfl) T.k_Stack rfl) pa_nil))))) (pss_one ps_never) pss_nil)), ?_⟩
    exact ⟨_, rfl, _, _, _, _, true, rfl, .own _, T.is_Stack.ty h1, kit_self, true, rfl, iteF k⟩
end
def Wr.use : Wr → Int
  | .coded m c => m * c
  | .pieces m _ => m
  | .cut m _ => m
  | .filled m => m
  | _ => 1
theorem step_use (p : Int) (a : Wr) : stepF p a = p * a.use := by
  cases a <;> simp [stepF, Wr.use, Int.mul_assoc]
theorem use_pos {a : Wr} (h : a.ok) : 1 ≤ a.use := by
  cases a with
  | coded m c =>
    simp only [Wr.ok] at h
    simp only [Wr.use]
    have := Int.mul_le_mul h.1 (show 1 ≤ c by omega) (by decide) (by omega)
    omega
  | _ => simp only [Wr.ok] at h; simp only [Wr.use]; omega
theorem fine_app (ws : List Wr) (a : Wr) : fineL (ws ++ [a]) = fineL ws * a.use := by
  unfold fineL
  rw [List.foldl_append]
  exact step_use _ a
theorem fine_pos : ∀ {ws : List Wr}, (∀ a ∈ ws, a.ok) → ∀ {p : Int}, 1 ≤ p → p ≤ ws.foldl stepF p
  | [], _, p, _ => Int.le_refl p
  | a :: ws, h, p, hp => by
    have u := use_pos (h a (List.mem_cons_self ..))
    have m := Int.mul_le_mul_of_nonneg_left u (show 0 ≤ p by omega)
    rw [Int.mul_one] at m
    have e : stepF p a = p * a.use := step_use p a
    have ih := fine_pos (ws := ws) (fun x hx => h x (List.mem_cons_of_mem _ hx)) (p := stepF p a) (by omega)
    show p ≤ ws.foldl stepF (stepF p a)
    omega
theorem fine_take {ws : List Wr} (h : ∀ a ∈ ws, a.ok) (i : Nat) : fineL (ws.take i) ≤ fineL ws := by
  have e : fineL ws = (ws.drop i).foldl stepF (fineL (ws.take i)) := by
    unfold fineL
    rw [← List.foldl_append, List.take_append_drop]
  rw [e]
  exact fine_pos (fun x hx => h x (List.mem_of_mem_drop hx)) (fine_pos (fun x hx => h x (List.mem_of_mem_take hx)) (by decide))
/-- the numbers from lo on whose square is within the room, among so many -/
def sqs (r : Int) (i : Nat) : List Int := ((List.range i).map fun (j : Nat) => 1 + (j : Int)).filter fun z => decide (z * z ≤ r)
theorem sqs_succ (r : Int) (i : Nat) : sqs r (i + 1) = sqs r i ++ (if (1 + (i : Int)) * (1 + (i : Int)) ≤ r then [1 + (i : Int)] else []) := by
  unfold sqs
  rw [List.range_succ, List.map_append, List.filter_append]
  congr 1
  by_cases c : (1 + (i : Int)) * (1 + (i : Int)) ≤ r <;> simp [c]
theorem sqs_len {r : Int} (hr : 1 ≤ r) : ∀ i : Nat, (sqs r i).length ≤ i ∧ (1 ≤ i → 1 ≤ (sqs r i).length) ∧ ∀ z : Int, 1 ≤ z → z ≤ (sqs r i).length → z * z ≤ r
  | 0 => ⟨Nat.zero_le _, fun h => absurd h (by decide), fun z h0 h1 => by
    have e : (sqs r 0).length = 0 := rfl
    rw [e] at h1
    omega⟩
  | i + 1 => by
    obtain ⟨h1, h2, h3⟩ := sqs_len hr i
    have e := sqs_succ r i
    by_cases c : (1 + (i : Int)) * (1 + (i : Int)) ≤ r
    · rw [e, if_pos c, List.length_append]
      refine ⟨by simp; omega, fun _ => by simp, fun z z0 z1 => ?_⟩
      have zi : z ≤ 1 + (i : Int) := by
        simp at z1
        omega
      exact Int.le_trans (Int.mul_le_mul zi zi (by omega) (by omega)) c
    · rw [e, if_neg c, List.append_nil]
      refine ⟨by omega, fun _ => ?_, h3⟩
      by_cases i0 : i = 0
      · exfalso
        apply c
        rw [i0]
        simp
        omega
      · exact h2 (by omega)
theorem int_at {ns : List Int} {i : Nat} {x : V} (h : (ns.map V.int)[i]? = some x) : ∃ n, ns[i]? = some n ∧ x = .int n := by
  rw [List.getElem?_map] at h
  cases e : ns[i]? with
  | none =>
    rw [e] at h
    cases h
  | some n =>
    rw [e] at h
    exact ⟨n, rfl, (Option.some.inj h).symm⟩
/-! ### texts of wraps and stacks -/
theorem nums_two (a : Wr) : a.nums.length ≤ 2 := by cases a <;> simp [Wr.nums]
theorem text_len {a : Wr} (h : a.ok) : a.text.length ≤ 200 := by
  have h1 := join_len (sep := (" " : Str)) (ys := a.kind :: a.nums.map fun i => (toString i : Str))
  have h2 := sum_short a.nums fun z hz => by have := nums_small h z hz; omega
  have h3 := kind_len a
  have h4 := nums_two a
  have h5 : (" " : Str).length = 1 := by decide
  unfold Wr.text
  simp only [List.map_cons, List.sum_cons, List.length_cons, List.length_map] at h1
  rw [h5] at h1
  omega
def baseText (b : Int) : Str := Str.empty ++ "base " ++ (toString b : Str)
def stkText (b : Int) (ws : List Wr) : Str := Txt.join "\n" (baseText b :: ws.map Wr.text)
theorem small_text {b : Int} (h0 : 0 ≤ b) (h1 : b ≤ 256) : (toString b : Str).length ≤ 4 := by
  have h := int_text_length_le10 (k := 3) (a := b) (by decide) (by omega)
  have e : (Str.ofString (toString b)).length = (toString b : String).length := PySem.ofString_length _
  show (Str.ofString (toString b)).length ≤ 4
  omega
theorem texts_sum : ∀ {ws : List Wr}, (∀ a ∈ ws, a.ok) → ((ws.map Wr.text).map (·.length)).sum ≤ 200 * ws.length
  | [], _ => by simp
  | a :: ws, h => by
    have h1 := texts_sum (ws := ws) fun x hx => h x (List.mem_cons_of_mem _ hx)
    have h2 := text_len (h a (List.mem_cons_self ..))
    simp only [List.map_cons, List.sum_cons, List.length_cons]
    omega
def spWStr (K : PySem.W.Frag) : Sp := fun vs H Q _ => ∃ (q : Addr) (a : Wr), vs = [.ref q] ∧ WrapAt K H q a ∧ a.ok ∧ Q (.str a.text) H
def spSStr (K : PySem.W.Frag) : Sp := fun vs H Q _ => ∃ (q : Addr) (b : Int) (ws : List Wr), vs = [.ref q] ∧ StkAt K H q b ws ∧ StkOk b ws ∧ ∀ H', Same H H' → Q (.str (stkText b ws)) H'
section
variable {P : Program} {w : World} {K : PySem.W.Frag} {mg : Str → Option Value} {base : Heap}
theorem ok_Wrap___str__ (T : Tx w K mg) : PromM P w K mg base CX0 1 "Wrap" "__str__" ["self"] (spWStr K) := by
  refine PromM.of T.cl_Wrap T.me_Wrap___str__ T.dm_Wrap___str__ sc_Wrap___str__ (fun vs H Q E h => ?_) (fun _ _ _ _ _ _ us hl => match us, hl with | [_], _ => rfl) (fun f cdv A outer s H vs Q E hr h => ?_)
  · obtain ⟨q, a, rfl, _⟩ := h
    rfl
  · obtain ⟨q, a, rfl, ⟨dx, p, h1, h2⟩, ok, k⟩ := h
    have tl := text_len ok
    refine ⟨_, (pss_one (ps_ret (pe_joined1 (pe_fmt (pe_fld (pv 0) rfl))))), ?_⟩
    exact ⟨_, rfl, q, _, dx, _, _, rfl, h1, T.cl_Wrap, T.na_Wrap_words, rfl, .inl ⟨_, rfl, by rw [sizeLine_eq]; omega, k⟩⟩
end
section
variable {P : Program} {w : World} {K : PySem.W.Frag} {mg : Str → Option Value} {base : Heap}
theorem ok_Stack___str__ (T : Tx w K mg) : PromM P w K mg base CX0 3 "Stack" "__str__" ["self"] (spSStr K) := by
  refine PromM.of T.cl_Stack T.me_Stack___str__ T.dm_Stack___str__ sc_Stack___str__ (fun vs H Q E h => ?_) (fun _ _ _ _ _ _ us hl => match us, hl with | [_], _ => rfl) (fun f cdv A outer s H vs Q E hr h => ?_)
  · obtain ⟨q, b, ws, rfl, _⟩ := h
    rfl
  · obtain ⟨q, b, ws, rfl, ⟨dx, t, xs, hq, ht, hw⟩, so, k⟩ := h
    have hlx := hw.len
    have l6 := so.len
    have bl := small_text (b := b) (by have := so.b0; omega) so.b1
    have e5 : (Str.empty ++ ("base " : Str)).length = 5 := by decide
    have el : (baseText b).length ≤ 9 := by
      show (Str.empty ++ ("base " : Str) ++ (toString b : Str)).length ≤ 9
      rw [PySem.Str.length_append]
      omega
    refine ⟨_, (pss_one (ps_ret (pe_join pe_str (pe_lst (pa_cons (pe_joined (PJ.cons pe_str (PJ.cons (pe_fmt (pe_fld (pv 0) rfl)) PJ.nil))) (StX.pa_star (pe_lc (own := [("wrap", 1)]) (g := (gName 1)) (tt := tYes) (by rfl) sc_Stack___str__.nd (pi_tup (pe_fld (pv 0) rfl)) (blkOk_by (own := [("wrap", 1)]) (N := ["self", "wrap"]) (sc := defScope s_Stack___str__) (by decide +kernel)) (fun _ _ _ _ _ => (pg_name (i := 1) sc_Stack___str__.nd rfl (Or.inl rfl))) (fun _ _ _ _ _ => pts_nil) (fun _ _ _ _ _ => (pe_joined1 (show PE _ _ (tFmtO (He.ga K "Wrap") _ _ _) from (pe_fmtO T.st_Wrap (ok_Wrap___str__ T) (hr.mono (by decide)) pass0 (pv 1)))))) pa_nil)))))), ?_⟩
    refine ⟨⟨_, rfl⟩, _, rfl, by rw [e5]; decide, _, rfl, q, _, dx, _, _, rfl, hq, T.cl_Stack, T.na_Stack_base, rfl, .inr ⟨b, rfl, log2_small (by have := so.b0; omega) (by have := so.b1; omega), _, rfl, ?_, ?_⟩⟩
    · show (baseText b).length ≤ sizeLine
      rw [sizeLine_eq]
      omega
    refine ⟨_, rfl, q, _, dx, _, _, rfl, hq, T.cl_Stack, T.na_Stack_wraps, rfl, t, rfl, ⟨_, SqT.of ht⟩, fun D hD => ?_⟩
    refine lc_tup (K := K) (a := t) (xs := xs) (Pv := fun i H' => Same H H' ∧ H' D = some (.lst ((ws.take i).map fun z => V.str z.text))) ⟨up hD, upd_same⟩ (fun i H' _ h => SqT.of (h.1 _ _ ht)) ?_ ?_
    · rintro i y H' hi ⟨hs, hl⟩
      obtain ⟨r, a, rfl, ha, hw1⟩ := hw.get hi
      obtain ⟨dx2, p, g1, g2⟩ := hw1.same hs
      refine ⟨rfl, _, rfl, r, dx2, _, rfl, g1, r, a, rfl, ⟨dx2, p, g1, g2⟩, so.ok a (List.mem_of_getElem? ha), _, rfl, _, hl, ?_, fun z o e => ?_, ?_⟩
      · rw [List.length_map, List.length_take, sizeLine_eq]
        omega
      · rw [upd_ne (ne_of_none e hD)]
        exact hs _ _ e
      · rw [upd_same, List.take_succ, ha, List.map_append]
        rfl
    · rintro H' ⟨hs, hl⟩
      rw [hlx, List.take_length] at hl
      refine ⟨D, _, rfl, .inr (SqL.of hl), ?_, fun l hl2 => ?_⟩
      · simp
        rw [sizeLine_eq]
        omega
      have el2 : V.str (baseText b) :: (ws.map (fun z => V.str z.text) ++ []) = (baseText b :: ws.map Wr.text).map V.str := by simp
      refine ⟨_, l, baseText b :: ws.map Wr.text, rfl, rfl, .inl (SqL.of (by rw [← el2]; exact upd_same)), ?_, ?_⟩
      · have h1 := texts_sum so.ok
        have h2 : ("\n" : Str).length = 1 := by decide
        simp only [List.map_cons, List.sum_cons, List.length_cons, List.length_map] at h1 ⊢
        rw [h2]
        omega
      · exact k _ (hs.trans (up hl2))
end
theorem grS_mono {b : Int} (hb : 2 ≤ b) : ∀ (ws : List Wr), (∀ a ∈ ws, a.ok) → ∀ {n k : Int}, 0 ≤ n → n ≤ k → grS b ws n ≤ grS b ws k
  | [], _, n, k, _, h => h
  | a :: ws, ha, n, k, h0, h => grS_mono hb ws (fun x hx => ha x (List.mem_cons_of_mem _ hx)) (gr_le hb (ha a (List.mem_cons_self ..)) h0).1 (gr_mono hb (ha a (List.mem_cons_self ..)) h0 h)
theorem grS_ge {b : Int} (hb : 2 ≤ b) : ∀ (ws : List Wr), (∀ a ∈ ws, a.ok) → ∀ {n : Int}, 0 ≤ n → n ≤ grS b ws n
  | [], _, n, _ => Int.le_refl n
  | a :: ws, ha, n, h0 => Int.le_trans (gr_ge hb (ha a (List.mem_cons_self ..)) h0) (grS_ge hb ws (fun x hx => ha x (List.mem_cons_of_mem _ hx)) (gr_le hb (ha a (List.mem_cons_self ..)) h0).1)
/-- what is no list, and no such instance, stays -/
structure Keeps (K : PySem.W.Frag) (H H' : Hp) : Prop where
  tup : ∀ {q xs}, H q = some (.tup xs) → H' q = some (.tup xs)
  wrap : ∀ {q dx fs}, H q = some (.ins (He.ga K "Wrap") dx fs) → H' q = some (.ins (He.ga K "Wrap") dx fs)
  stack : ∀ {q dx fs}, H q = some (.ins (He.ga K "Stack") dx fs) → H' q = some (.ins (He.ga K "Stack") dx fs)
theorem Keeps.same {K : PySem.W.Frag} {H H' : Hp} (s : Same H H') : Keeps K H H' := ⟨fun h => s _ _ h, fun h => s _ _ h, fun h => s _ _ h⟩
theorem Keeps.lst {K : PySem.W.Frag} {H : Hp} {l : Addr} {ys zs : List V} (hl : H l = some (.lst ys)) : Keeps K H (upd H l (.lst zs)) :=
  ⟨fun {q xs} e => by rw [upd_ne (fun z => by rw [z, hl] at e; cases e)]; exact e, fun {q xs fs} e => by rw [upd_ne (fun z => by rw [z, hl] at e; cases e)]; exact e, fun {q xs fs} e => by rw [upd_ne (fun z => by rw [z, hl] at e; cases e)]; exact e⟩
theorem Keeps.trans {K : PySem.W.Frag} {H H1 H2 : Hp} (a : Keeps K H H1) (b : Keeps K H1 H2) : Keeps K H H2 := ⟨fun h => b.tup (a.tup h), fun h => b.wrap (a.wrap h), fun h => b.stack (a.stack h)⟩
/-- only the road at r changes -/
theorem Keeps.road {K : PySem.W.Frag} {H H' : Hp} {r dr : Addr} {fs : List (Str × V)} (n1 : He.ga K "Road" ≠ He.ga K "Wrap") (n2 : He.ga K "Road" ≠ He.ga K "Stack") (hr : H r = some (.ins (He.ga K "Road") dr fs)) (k : Kp r H H') : Keeps K H H' :=
  ⟨fun {q xs} e => k _ _ (fun z => by rw [z, hr] at e; cases e) e, fun {q xs fs} e => k _ _ (fun z => by rw [z, hr] at e; exact n1 (by injection e with e; injection e)) e, fun {q xs fs} e => k _ _ (fun z => by rw [z, hr] at e; exact n2 (by injection e with e; injection e)) e⟩
theorem WrapAt.keeps {K : PySem.W.Frag} {H H' : Hp} {q : Addr} {a : Wr} (h : WrapAt K H q a) (k : Keeps K H H') : WrapAt K H' q a := by
  obtain ⟨dx, p, h1, h2⟩ := h
  exact ⟨dx, p, k.wrap h1, k.tup h2⟩
theorem WrapsAt.keeps {K : PySem.W.Frag} {H H' : Hp} {xs : List V} {ws : List Wr} (h : WrapsAt K H xs ws) (k : Keeps K H H') : WrapsAt K H' xs ws := by
  induction h with
  | nil => exact .nil
  | cons h _ ih => exact .cons (h.keeps k) ih
theorem WrapsAt.dropLast {K : PySem.W.Frag} {H : Hp} {xs : List V} {ws : List Wr} (h : WrapsAt K H xs ws) : WrapsAt K H xs.dropLast ws.dropLast := by
  induction h with
  | nil => exact .nil
  | cons h r ih =>
    cases r with
    | nil => exact .nil
    | cons h2 r2 => exact .cons h ih
theorem StkAt.keeps {K : PySem.W.Frag} {H H' : Hp} {q : Addr} {b : Int} {ws : List Wr} (h : StkAt K H q b ws) (k : Keeps K H H') : StkAt K H' q b ws := by
  obtain ⟨dx, t, xs, h1, h2, h3⟩ := h
  exact ⟨dx, t, xs, k.stack h1, k.tup h2, h3.keeps k⟩
/-! ### the law's bowl: what is drawn lies in its range, and nothing else is told of it -/
def PurseAt (H : Hp) (p : Addr) : Prop := ∃ d m c : Int, H p = some (.lst [.int d, .int m, .int c]) ∧ 0 ≤ d ∧ 0 ≤ m ∧ m < 1073741719 ∧ 0 ≤ c
theorem PurseAt.of {H : Hp} {p : Addr} {d m c : Int} (h : H p = some (.lst [.int d, .int m, .int c])) (h1 : 0 ≤ d) (h2 : 0 ≤ m) (h3 : m < 1073741719) (h4 : 0 ≤ c) : PurseAt H p := ⟨d, m, c, h, h1, h2, h3, h4⟩
structure Drew (p : Addr) (H H' : Hp) : Prop where
  at_ : PurseAt H' p
  kp : Kp p H H'
theorem Drew.refl {p : Addr} {H : Hp} (h : PurseAt H p) : Drew p H H := ⟨h, Kp.refl p H⟩
theorem Drew.trans {p : Addr} {H H1 H2 : Hp} (a : Drew p H H1) (b : Drew p H1 H2) : Drew p H H2 := ⟨b.at_, a.kp.trans b.kp⟩
theorem Drew.new {p q : Addr} {H H' : Hp} {o : HO} (a : Drew p H H') (h : H' q = none) : Drew p H (upd H' q o) := by
  obtain ⟨m, d, c, e, r⟩ := a.at_
  exact ⟨⟨m, d, c, by rw [upd_ne (ne_of_none e h)]; exact e, r⟩, a.kp.new h⟩
theorem Drew.same {p : Addr} {H H1 H2 : Hp} (a : Drew p H H1) (b : Same H1 H2) : Drew p H H2 := by
  obtain ⟨m, d, c, e, r⟩ := a.at_
  exact ⟨⟨m, d, c, b _ _ e, r⟩, fun x o n h => b _ _ (a.kp x o n h)⟩
def spRight : Sp := fun vs H Q _ => ∃ (p : Addr), vs = [.ref p] ∧ PurseAt H p ∧ ∀ H', Drew p H H' → Q (.bl true) H'
def spBowl (K : PySem.W.Frag) : Sp := fun vs H Q _ => ∃ (a : Addr) (ns : List Int) (k : Int), vs = [.ref a, .int k] ∧ SqL K H a (ns.map V.int) ∧ 0 ≤ k ∧ k ≤ 1000 ∧ ∀ p H', H p = none → Same H H' → PurseAt H' p → Q (.ref p) H'
def spTake : Sp := fun vs H Q _ => ∃ (p : Addr) (n : Int), vs = [.ref p, .int n] ∧ PurseAt H p ∧ 0 < n ∧ n ≤ 1000000000000000000000000000000 ∧ ∀ r H', 0 ≤ r → r < n → Drew p H H' → Q (.int r) H'
def spDraw (lo hi : Int) : Sp := fun vs H Q _ => ∃ (p : Addr), vs = [.ref p] ∧ PurseAt H p ∧ ∀ r H', lo ≤ r → r ≤ hi → Drew p H H' → Q (.int r) H'
/-- one of the things -/
def spOne : Sp := fun vs H Q _ => ∃ (p t : Addr) (xs : List V), vs = [.ref p, .ref t] ∧ PurseAt H p ∧ t ≠ p ∧ H t = some (.lst xs) ∧ 0 < xs.length ∧ xs.length ≤ 1000 ∧ ∀ (i : Nat) x H', xs[i]? = some x → Drew p H H' → Q x H'
theorem cutV_ints (ns : List Int) (lo hi : Option Int) : ∃ ms : List Int, cutV (ns.map V.int) lo hi = ms.map V.int := by
  unfold cutV
  exact ⟨_, by rw [← List.map_drop, ← List.map_take]⟩
theorem item_int {ns : List Int} {i : Nat} {x : V} (h : (ns.map V.int)[i]? = some x) : ∃ z, x = .int z := by
  rw [List.getElem?_map] at h
  cases e : ns[i]? with
  | none =>
    rw [e] at h
    cases h
  | some z =>
    rw [e] at h
    exact ⟨z, (Option.some.inj h).symm⟩
section
variable {P : Program} {w : World} {K : PySem.W.Frag} {mg : Str → Option Value} {base : Heap}
theorem ok_L_bowl (T : Tx w K mg) : Prom P w K mg base CX0 1 "_law_bowl" s_L_bowl ["_law_script", "_law_k"] (spBowl K) := by
  refine Prom.of T.d_L_bowl sc_L_bowl (fun vs H Q E h => ?_) (fun _ _ _ _ _ _ us hl => match us, hl with | [_, _], _ => rfl) (fun f cdv A outer s H vs Q E hr h => ?_)
  · obtain ⟨a, ns, n, rfl, _⟩ := h
    rfl
  · obtain ⟨a, ns, n, rfl, hS, h0, h1, k⟩ := h
    have d0 : (0 : Int) < 1073741719 := by decide
    refine ⟨_, (pss_cons (ps_set (i := 2) sc_L_bowl.nd rfl (Or.inl rfl) (pe_op op_add pe_int (pe_op op_mul pe_int (pv 1))))
      (pss_cons (ps_for PassesOwn.never (by rfl) (pi_list (pe_slice sl_list (pv 0) po_none (po_some pe_int))) (pg_name (i := 3) sc_L_bowl.nd rfl (Or.inl rfl)) (pss_one (ps_set (i := 2) sc_L_bowl.nd rfl (Or.inl rfl) (pe_op op_mod (pe_callTy call_int1 (by rfl) T.b_int (by decide +kernel) (pa_cons (pe_op op_add (pe_op op_mul (pv 2) pe_int) (pe_op op_mod (pe_callTy call_int1 (by rfl) T.b_int (by decide +kernel) (pa_cons (pv 3) pa_nil)) pe_int)) pa_nil)) pe_int))))
      (pss_cons (ps_set (i := 4) sc_L_bowl.nd rfl (Or.inl rfl) (pe_ifExp (pt_cmp (pc_lt (pv 1) (pe_callB call_len_seq (by rfl) T.b_len (by decide +kernel) (pa_cons (pv 0) pa_nil)))) (pe_callTy call_int1 (by rfl) T.b_int (by decide +kernel) (pa_cons (pe_ix ix_list (pv 0) (pv 1) (fun _ _ => rfl)) pa_nil)) (pe_op op_mul pe_int (pv 1))))
      (pss_one (ps_ret (pe_lst (pa_cons (pe_ifExp (PW.pt (pw_or (pt_cmp (pc_lt (pv 4) pe_int)) (pw_or1 (pt_cmp (pc_ge (pv 4) (pe_op op_pow pe_int pe_int)))))) (pe_callB call_abs (by rfl) T.b_abs (by decide +kernel) (pa_cons (pv 4) pa_nil)) pe_int) (pa_cons (pe_op op_mod (pe_callTy call_int1 (by rfl) T.b_int (by decide +kernel) (pa_cons (pe_op op_add (pv 2) (pe_op op_mod (pv 4) pe_int)) pa_nil)) pe_int) (pa_cons pe_int pa_nil))))))))), ?_⟩
    refine ⟨_, rfl, _, _, rfl, rfl, .inl ⟨by decide, by decide⟩, _, _, rfl, rfl, ?_⟩
    obtain ⟨ms, hms⟩ := cutV_ints ns none (some 12)
    refine ⟨_, rfl, _, rfl, a, _, rfl, hS, fun p hp => ?_⟩
    rw [hms]
    refine ⟨p, rfl, ⟨_, SqL.of upd_same⟩, for_list (K := K) (a := p) (xs := ms.map V.int) (fun i σ H' => Same (upd H p (.lst (ms.map V.int))) H' ∧ ∃ m v1 v2, σ = [some (.ref a), some (.int n), some (.int m), v1, v2]) ⟨Same.refl _, _, none, none, rfl⟩ (fun i σ H' _ h => SqL.of (h.1 _ _ upd_same)) ?_ ?_⟩
    · rintro i x σ H' hi ⟨hs, m, v1, v2, rfl⟩
      obtain ⟨z, rfl⟩ := item_int hi
      exact ⟨_, rfl, _, _, rfl, rfl, .inr ⟨by decide, by decide⟩, _, rfl, .inl ⟨_, rfl, _, _, rfl, rfl, d0, _, _, rfl, rfl, .inl ⟨_, rfl, _, _, rfl, rfl, d0, hs, _, _, _, rfl⟩⟩⟩
    · rintro σ H' ⟨hs, m, v1, v2, rfl⟩
      have hs0 : Same H H' := Same.trans (fun b o e => by rw [upd_ne (ne_of_none e hp)]; exact e) hs
      have hS' := hs0.seq hS
      have fin : ∀ d x : Int, 0 ≤ d → ∀ q, H' q = none → Q (.ref q) (upd H' q (.lst [.int d, .int (x % 1073741719), .int 0])) := fun d x hd q hq =>
        k q _ (by
          cases e : H q with
          | none => rfl
          | some o =>
            rw [hs0 _ _ e] at hq
            cases hq) (fun b o e => by rw [upd_ne (ne_of_none (hs0 _ _ e) hq)]; exact hs0 _ _ e) (PurseAt.of upd_same hd (Int.emod_nonneg _ (by decide)) (Int.emod_lt_of_pos _ d0) (Int.le_refl 0))
      have rest : ∀ own : Int, ∃ k : Bool, True := fun _ => ⟨true, trivial⟩
      refine ⟨_, rfl, _, rfl, _, _, rfl, .inl hS', _, _, rfl, rfl, _, rfl, ifd (fun c => ?_) (fun c => ?_)⟩
      · rw [List.length_map] at c
        have hi : n.toNat < ns.length := by omega
        obtain ⟨z, hz⟩ : ∃ z, ns[n.toNat]? = some z := ⟨_, List.getElem?_eq_getElem hi⟩
        have ez : (ns.map V.int)[n.toNat]? = some (V.int z) := by rw [List.getElem?_map, hz]; rfl
        refine ⟨_, rfl, _, rfl, _, _, _, _, rfl, rfl, hS', at_of (show n = ((n.toNat : Nat) : Int) by omega) ez, .inl ⟨_, rfl, ?_⟩⟩
        refine ⟨_, rfl, _, _, rfl, rfl, _, rfl, ifd (fun c1 => iteT ?_) (fun c1 => ?_)⟩
        · refine ⟨_, rfl, _, rfl, _, rfl, _, rfl, _, _, rfl, rfl, d0, _, _, rfl, rfl, .inl ⟨_, rfl, _, _, rfl, rfl, d0, (by show 3 ≤ sizeLine; decide), fun q hq => fin _ _ ?_ q hq⟩⟩
          split <;> omega
        refine ⟨_, rfl, _, _, rfl, rfl, ⟨by decide, by decide, by decide⟩, _, _, rfl, rfl, _, rfl, ifd (fun c2 => ?_) (fun c2 => ?_)⟩
        · refine ⟨_, rfl, _, rfl, _, rfl, _, rfl, _, _, rfl, rfl, d0, _, _, rfl, rfl, .inl ⟨_, rfl, _, _, rfl, rfl, d0, (by show 3 ≤ sizeLine; decide), fun q hq => fin _ _ ?_ q hq⟩⟩
          split <;> omega
        · exact ⟨_, rfl, _, rfl, _, _, rfl, rfl, d0, _, _, rfl, rfl, .inl ⟨_, rfl, _, _, rfl, rfl, d0, (by show 3 ≤ sizeLine; decide), fun q hq => fin 0 _ (Int.le_refl 0) q hq⟩⟩
      · refine ⟨_, rfl, _, _, rfl, rfl, .inl ⟨by decide, by decide⟩, ?_⟩
        refine ⟨_, rfl, _, _, rfl, rfl, _, rfl, ifd (fun c1 => iteT ?_) (fun c1 => ?_)⟩
        · refine ⟨_, rfl, _, rfl, _, rfl, _, rfl, _, _, rfl, rfl, d0, _, _, rfl, rfl, .inl ⟨_, rfl, _, _, rfl, rfl, d0, (by show 3 ≤ sizeLine; decide), fun q hq => fin _ _ ?_ q hq⟩⟩
          split <;> omega
        refine ⟨_, rfl, _, _, rfl, rfl, ⟨by decide, by decide, by decide⟩, _, _, rfl, rfl, _, rfl, ifd (fun c2 => ?_) (fun c2 => ?_)⟩
        · refine ⟨_, rfl, _, rfl, _, rfl, _, rfl, _, _, rfl, rfl, d0, _, _, rfl, rfl, .inl ⟨_, rfl, _, _, rfl, rfl, d0, (by show 3 ≤ sizeLine; decide), fun q hq => fin _ _ ?_ q hq⟩⟩
          split <;> omega
        · exact ⟨_, rfl, _, rfl, _, _, rfl, rfl, d0, _, _, rfl, rfl, .inl ⟨_, rfl, _, _, rfl, rfl, d0, (by show 3 ≤ sizeLine; decide), fun q hq => fin 0 _ (Int.le_refl 0) q hq⟩⟩
theorem ok_L_scoop (T : Tx w K mg) : Prom P w K mg base CX0 1 "_law_scoop" s_L_scoop ["_law_bowl_here", "_law_many"] spTake := by
  refine Prom.of T.d_L_scoop sc_L_scoop (fun vs H Q E h => ?_) (fun _ _ _ _ _ _ us hl => match us, hl with | [_, _], _ => rfl) (fun f cdv A outer s H vs Q E hr h => ?_)
  · obtain ⟨p, n, rfl, _⟩ := h
    rfl
  · obtain ⟨p, n, rfl, ⟨d, m, c, hp, h1, h2, h3, h4⟩, hn, hn2, k⟩ := h
    refine ⟨_, (pss_cons (ps_if (pt_cmp (pc_gt (pe_ix ix_list (pv 0) pe_int (fun _ _ => rfl)) pe_int)) (pss_cons (ps_asg (pe_callB call_divmodW (by rfl) T.b_divmod (by decide +kernel) (pa_cons (pe_callTy call_int1 (by rfl) T.b_int (by decide +kernel) (pa_cons (pe_ix ix_list (pv 0) pe_int (fun _ _ => rfl)) pa_nil)) (pa_cons (pv 1) pa_nil))) (pg_tup rfl (pgs_cons (pg_sub (pv 0) pe_int set_list) (pgs_cons (pg_name (i := 2) sc_L_scoop.nd rfl (Or.inl rfl)) pgs_nil))))
      (pss_one (ps_ret (pv 2)))) pss_nil)
      (pss_cons (ps_asg (pe_op op_add (pe_ix ix_list (pv 0) pe_int (fun _ _ => rfl)) pe_int) (pg_sub (pv 0) pe_int set_list))
      (pss_cons (ps_asg (pe_op op_mod (pe_callTy call_int1 (by rfl) T.b_int (by decide +kernel) (pa_cons (pe_op op_add (pe_op op_add (pe_op op_mul (pe_ix ix_list (pv 0) pe_int (fun _ _ => rfl)) pe_int) (pe_op op_mul (pe_op op_fdiv (pe_ix ix_list (pv 0) pe_int (fun _ _ => rfl)) pe_int) pe_int)) (pe_op op_mul pe_int (pe_ix ix_list (pv 0) pe_int (fun _ _ => rfl)))) pa_nil)) pe_int) (pg_sub (pv 0) pe_int set_list))
      (pss_one (ps_ret (pe_op op_mod (pe_callTy call_int1 (by rfl) T.b_int (by decide +kernel) (pa_cons (pe_op op_fdiv (pe_ix ix_list (pv 0) pe_int (fun _ _ => rfl)) pe_int) pa_nil)) (pv 1))))))), ?_⟩
    refine ⟨_, rfl, _, _, _, _, rfl, rfl, SqL.of hp, rfl, _, _, rfl, rfl, _, rfl, ifd (fun c1 => ?_) (fun c1 => ?_)⟩
    · refine ⟨_, rfl, _, _, _, _, rfl, rfl, SqL.of hp, rfl, .inl ⟨_, rfl, _, rfl, _, _, rfl, divp_small hn hn2, fun q hq => ?_⟩⟩
      have nq : p ≠ q := ne_of_none hp hq
      refine ⟨q, _, rfl, SqT.of upd_same, rfl, _, _, rfl, ?_⟩
      refine ⟨_, rfl, _, _, _, _, rfl, rfl, (by rw [upd_ne nq]; exact hp), rfl, ?_⟩
      refine ⟨_, _, rfl, rfl, ?_⟩
      refine ⟨_, rfl, k _ _ (Int.emod_nonneg _ (by omega)) (Int.emod_lt_of_pos _ hn) ⟨PurseAt.of upd_same (Int.ediv_nonneg (by omega) (by omega)) h2 h3 h4, ?_⟩⟩
      exact Kp.set (Kp.new (Kp.refl p H) hq)
    · refine ⟨_, rfl, _, _, _, _, rfl, rfl, SqL.of hp, rfl, _, _, rfl, rfl, _, rfl, _, _, _, _, rfl, rfl, hp, rfl, ?_⟩
      have e1 : (upd H p (.lst ([V.int d, V.int m, V.int c].set 2 (V.int (c + 1))))) p = some (.lst [.int d, .int m, .int (c + 1)]) := upd_same
      refine ⟨_, rfl, _, _, _, _, rfl, rfl, SqL.of e1, rfl, _, _, rfl, rfl, .inr ⟨by decide, by decide⟩, _, rfl, _, _, _, _, rfl, rfl, SqL.of e1, rfl, _, _, rfl, rfl, ⟨by decide, by decide⟩, _, _, rfl, rfl, .inr ⟨by decide, by decide⟩, _, _, rfl, rfl,
        _, rfl, _, _, _, _, rfl, rfl, SqL.of e1, rfl, _, _, rfl, rfl, .inl ⟨by decide, by decide⟩, _, _, rfl, rfl, .inl ⟨_, rfl, _, _, rfl, rfl, (show (0 : Int) < 1073741719 by decide), ?_⟩⟩
      refine ⟨_, rfl, _, _, _, _, rfl, rfl, e1, rfl, ?_⟩
      have c2 : ∀ x : Int, 0 ≤ x % 1073741719 := fun x => Int.emod_nonneg _ (by decide)
      have c3 : ∀ x : Int, x % 1073741719 < 1073741719 := fun x => Int.emod_lt_of_pos _ (by decide)
      refine ⟨_, rfl, _, _, _, _, rfl, rfl, SqL.of upd_same, rfl, _, _, rfl, rfl, ⟨by decide, by decide⟩, .inl ⟨_, rfl, _, rfl, _, _, rfl, rfl, hn, ?_⟩⟩
      refine k _ _ (Int.emod_nonneg _ (by omega)) (Int.emod_lt_of_pos _ hn) ⟨PurseAt.of upd_same h1 (c2 _) (c3 _) (by omega), ?_⟩
      exact Kp.set (Kp.set (Kp.refl p H))
theorem ok_L_one_of (T : Tx w K mg) : Prom P w K mg base CX0 2 "_law_one_of" s_L_one_of ["_law_bowl_here", "_law_things"] spOne := by
  refine Prom.of T.d_L_one_of sc_L_one_of (fun vs H Q E h => ?_) (fun _ _ _ _ _ _ us hl => match us, hl with | [_, _], _ => rfl) (fun f cdv A outer s H vs Q E hr h => ?_)
  · obtain ⟨p, t, xs, rfl, _⟩ := h
    rfl
  · obtain ⟨p, t, xs, rfl, hp, nt, ht, l0, l1, k⟩ := h
    refine ⟨_, (pss_one (ps_ret (pe_ix ix_list (pv 1) (pe_callP (ok_L_scoop T) (hr.mono (by decide)) (by rfl) pass0 (pa_cons (pv 0) (pa_cons (pe_callB call_len_seq (by rfl) T.b_len (by decide +kernel) (pa_cons (pv 1) pa_nil)) pa_nil))) (fun _ _ => rfl)))), ?_⟩
    refine ⟨_, rfl, _, rfl, _, rfl, t, xs, rfl, .inl (SqL.of ht), p, _, rfl, hp, by omega, by omega, fun r H' r0 r1 d => ?_⟩
    have hi : r.toNat < xs.length := by omega
    have ht' := d.kp _ _ nt ht
    have hx : xs[r.toNat]? = some xs[r.toNat] := List.getElem?_eq_getElem hi
    exact ⟨t, xs, _, _, rfl, rfl, SqL.of ht', at_of (show r = ((r.toNat : Nat) : Int) by omega) hx, k _ _ H' hx d⟩
end
/-! ### heaps and slots -/
theorem same_up {H : Hp} {p : Addr} {o : HO} (hp : H p = none) : Same H (upd H p o) := fun x o e => by
  rw [upd_ne (ne_of_none e hp)]
  exact e
theorem gn {i : Nat} {x : V} {σ : L2.St} {H : Hp} {k : L2.St → Hp → Prop} (h : k (σ.set i (some x)) H) : gName i x σ H k := h
theorem st_eq {F : L2.St → Hp → Prop} {σ : L2.St} {H : Hp} (σ' : L2.St) (e : σ = σ') (k : F σ' H) : F σ H := e ▸ k
theorem hp_eq {F : L2.St → Hp → Prop} {σ : L2.St} {H : Hp} (H2 : Hp) (e : H = H2) (k : F σ H2) : F σ H := e ▸ k
theorem hp_new {F : L2.St → Hp → Prop} {σ : L2.St} {H : Hp} {w : Addr} {o : HO} (h : H w = none) (k : ∀ G, Same H G → G w = some o → F σ G) : F σ (upd H w o) := k _ (up h) upd_same
theorem hp_new2 {F : L2.St → Hp → Prop} {σ : L2.St} {H : Hp} {w w2 : Addr} {o o2 : HO} (h2 : H w2 = none) (h : upd H w2 o2 w = none) (k : ∀ G, Same H G → G w = some o → F σ G) : F σ (upd (upd H w2 o2) w o) := k _ (fun _ _ e => up h _ _ (up h2 _ _ e)) upd_same
/-! ### things of any kind: what isinstance says of them -/
def isNum : V → Bool
  | .int _ => true
  | .bl _ => true
  | _ => false
def isBl : V → Bool
  | .bl _ => true
  | _ => false
def isInt : V → Bool
  | .int _ => true
  | _ => false
def inRV (lo hi : Int) : V → Bool
  | .int i => decide (lo ≤ i ∧ i ≤ hi)
  | _ => false
theorem inRV_int {lo hi : Int} {v : V} (h : inRV lo hi v = true) : ∃ i, v = .int i ∧ lo ≤ i ∧ i ≤ hi := by
  cases v with
  | int i => exact ⟨i, rfl, of_decide_eq_true h⟩
  | _ => exact Bool.noConfusion h
/-- it is of none of these built-in types and of none of the own classes but its own -/
structure Thg (K : PySem.W.Frag) (H : Hp) (v : V) : Prop where
  ex : ∃ t, TyX K H v t ∧ PySem.W.kitOne K t (.type "int") = some (isNum v) ∧ PySem.W.kitOne K t (.type "bool") = some (isBl v)
/-- no tuple -/
def NoTup (K : PySem.W.Frag) (H : Hp) (v : V) : Prop := ∃ t, TyX K H v t ∧ PySem.W.kitOne K t (.type "tuple") = some false
/-- no instance of the class C -/
def NoC (K : PySem.W.Frag) (H : Hp) (C : Str) (v : V) : Prop := ∃ t, TyX K H v t ∧ PySem.W.kitOne K t (.ref (He.ga K C)) = some false
/-- all that is not of an own class -/
structure Bas (K : PySem.W.Frag) (H : Hp) (v : V) (T : String) : Prop where
  ty : TyX K H v (.type T)
  mem : T ∈ btys
  i : PySem.W.kitOne K (.type T) (.type "int") = some (isNum v)
  b : PySem.W.kitOne K (.type T) (.type "bool") = some (isBl v)
  t : PySem.W.kitOne K (.type T) (.type "tuple") = some (decide (T = "tuple"))
section
variable {K : PySem.W.Frag} {H : Hp}
theorem Bas.thg {v : V} {T : String} (h : Bas K H v T) : Thg K H v := ⟨_, h.ty, h.i, h.b⟩
theorem Bas.noTup {v : V} {T : String} (h : Bas K H v T) (n : T ≠ "tuple") : NoTup K H v := ⟨_, h.ty, by rw [h.t, decide_eq_false n]⟩
theorem Bas.noC {v : V} {T : String} {Cs : List Str} {C : Str} (h : Bas K H v T) (k : KitTab K Cs) (hC : C ∈ Cs) : NoC K H C v := ⟨_, h.ty, k.bt T h.mem C hC⟩
theorem Bas.int (i : Int) : Bas K H (.int i) "int" := ⟨.base (.int i), by simp [btys], kit_ty (r := true) (by decide +kernel), kit_ty (r := false) (by decide +kernel), kit_ty (r := false) (by decide +kernel)⟩
theorem Bas.bl (b : Bool) : Bas K H (.bl b) "bool" := ⟨.base (.bl b), by simp [btys], kit_ty (r := true) (by decide +kernel), kit_ty (r := true) (by decide +kernel), kit_ty (r := false) (by decide +kernel)⟩
theorem Bas.non : Bas K H .non "NoneType" := ⟨.base .non, by simp [btys], kit_ty (r := false) (by decide +kernel), kit_ty (r := false) (by decide +kernel), kit_ty (r := false) (by decide +kernel)⟩
theorem Bas.str (s : Str) : Bas K H (.str s) "str" := ⟨.base (.str s), by simp [btys], kit_ty (r := false) (by decide +kernel), kit_ty (r := false) (by decide +kernel), kit_ty (r := false) (by decide +kernel)⟩
theorem Bas.lst {a : Addr} {xs : List V} (h : H a = some (.lst xs)) : Bas K H (.ref a) "list" := ⟨.base (.lst h), by simp [btys], kit_ty (r := false) (by decide +kernel), kit_ty (r := false) (by decide +kernel), kit_ty (r := false) (by decide +kernel)⟩
theorem Bas.tup {a : Addr} {xs : List V} (h : H a = some (.tup xs)) : Bas K H (.ref a) "tuple" := ⟨.base (.tup h), by simp [btys], kit_ty (r := false) (by decide +kernel), kit_ty (r := false) (by decide +kernel), kit_ty (r := true) (by decide +kernel)⟩
theorem Bas.dct {a : Addr} {kvs : List (Key × V)} (h : H a = some (.dK kvs)) : Bas K H (.ref a) "dict" := ⟨.base (.dK h), by simp [btys], kit_ty (r := false) (by decide +kernel), kit_ty (r := false) (by decide +kernel), kit_ty (r := false) (by decide +kernel)⟩
/-- an instance of an own class -/
theorem Thg.ins {Cs : List Str} {C : Str} {a dx : Addr} {fs : List (Str × V)} (i : IsiK K (He.ga K C)) (k : KitTab K Cs) (hC : C ∈ Cs) (h : H a = some (.ins (He.ga K C) dx fs)) : Thg K H (.ref a) := ⟨_, i.ty h, k.tb C hC "int" (by simp [btys]), k.tb C hC "bool" (by simp [btys])⟩
theorem noTup_ins {Cs : List Str} {C : Str} {a dx : Addr} {fs : List (Str × V)} (i : IsiK K (He.ga K C)) (k : KitTab K Cs) (hC : C ∈ Cs) (h : H a = some (.ins (He.ga K C) dx fs)) : NoTup K H (.ref a) := ⟨_, i.ty h, k.tb C hC "tuple" (by simp [btys])⟩
theorem noC_ins {Cs : List Str} {C D : Str} {a dx : Addr} {fs : List (Str × V)} (i : IsiK K (He.ga K C)) (k : KitTab K Cs) (hC : C ∈ Cs) (hD : D ∈ Cs) (n : C ≠ D) (h : H a = some (.ins (He.ga K C) dx fs)) : NoC K H D (.ref a) := ⟨_, i.ty h, by rw [k.tt C hC D hD, decide_eq_false n]⟩
end
def spIsIntT (K : PySem.W.Frag) : Sp := fun vs H Q _ => ∃ v : V, vs = [v] ∧ Thg K H v ∧ Q (.bl (isInt v)) H
def spBetweenT (K : PySem.W.Frag) : Sp := fun vs H Q _ => ∃ (v : V) (l m : Int), vs = [v, .int l, .int m] ∧ Thg K H v ∧ Q (.bl (inRV l m v)) H
/-- a check: nothing, or an error -/
def spChk (K : PySem.W.Frag) (C f : Str) (lo hi : Int) : Sp := fun vs H Q E => ∃ v : V, vs = [v] ∧ Thg K H v ∧ (inRV lo hi v = true → Q .non H) ∧ (inRV lo hi v = false → Fails K H E C f v)
theorem iteN {b : Bool} {A B : Prop} (h1 : b = false → A) (h2 : b = true → B) : if (!b) = true then A else B := by
  cases b with
  | false => exact h1 rfl
  | true => exact h2 rfl
section
variable {P : Program} {w : World} {K : PySem.W.Frag} {mg : Str → Option Value} {base : Heap}
theorem ok_is_integerX (T : Tx w K mg) : Prom P w K mg base CX0 1 "is_integer" s_is_integer ["value"] (spIsIntT K) := by
  refine Prom.of T.d_is_integer sc_is_integer (fun vs H Q E h => ?_) (fun _ _ _ _ _ _ us hl => match us, hl with | [_], _ => rfl) (fun f cdv A outer s H vs Q E hr h => ?_)
  · obtain ⟨v, rfl, _⟩ := h
    rfl
  · obtain ⟨v, rfl, ⟨t, ty, ki, _⟩, k⟩ := h
    refine ⟨_, (pss_one (ps_ret (pe_and (pe_callB call_isi (by rfl) T.b_isinstance (by decide +kernel) (pa_cons (pv 0) (pa_cons (pe_bltn (v := .ty "int") (by rfl) T.b_int (by decide +kernel) rfl) pa_nil))) (pe_and (pe_cmpR op_isnotBl (pv 0) pe_bl (nomark _)) (pe_one (pe_cmpR op_isnotBl (pv 0) pe_bl (nomark _))))))), ?_⟩
    refine ⟨_, rfl, _, _, _, _, _, rfl, .ty _, ty, ki, _, rfl, ?_⟩
    cases v with
    | int i => exact iteT ⟨_, rfl, _, rfl, true, rfl, iteT ⟨_, rfl, _, rfl, k⟩⟩
    | bl b =>
      cases b with
      | true => exact iteT ⟨_, rfl, _, rfl, false, rfl, iteF k⟩
      | false => exact iteT ⟨_, rfl, _, rfl, true, rfl, iteT ⟨_, rfl, _, rfl, k⟩⟩
    | _ => exact iteF k
theorem ok_is_betweenX (T : Tx w K mg) : Prom P w K mg base CX0 2 "is_between" s_is_between ["value", "least", "most"] (spBetweenT K) := by
  refine Prom.of T.d_is_between sc_is_between (fun vs H Q E h => ?_) (fun _ _ _ _ _ _ us hl => match us, hl with | [_, _, _], _ => rfl) (fun f cdv A outer s H vs Q E hr h => ?_)
  · obtain ⟨v, l, m, rfl, _⟩ := h
    rfl
  · obtain ⟨v, l, m, rfl, hd, k⟩ := h
    refine ⟨_, (pss_one (ps_ret (pe_and (pe_callP (ok_is_integerX T) (hr.mono (by decide)) (by rfl) pass0 (pa_cons (pv 0) pa_nil)) (pe_one (pe_chain op_le op_le (pv 1) (pv 0) (pv 2)))))), ?_⟩
    refine ⟨_, rfl, v, rfl, hd, isInt v, rfl, ?_⟩
    cases v with
    | int v =>
      refine iteT ⟨_, rfl, _, rfl, _, _, rfl, rfl, _, rfl, ifd (fun h1 => ?_) (fun h1 => ?_)⟩
      · refine ⟨_, rfl, _, _, rfl, rfl, ?_⟩
        show Q (.bl (decide (v ≤ m))) H
        have e : decide (v ≤ m) = decide (l ≤ v ∧ v ≤ m) := by simp [h1]
        rw [e]
        exact k
      · show Q (.bl false) H
        have e : false = decide (l ≤ v ∧ v ≤ m) := by simp [h1]
        rw [e]
        exact k
    | _ => exact iteF k
end
section
variable {P : Program} {w : World} {K : PySem.W.Frag} {mg : Str → Option Value} {base : Heap}
theorem drew_one {p t : Addr} {H H1 H2 : Hp} {o : HO} (a : Drew p H H1) (ht : H1 t = none) (b : Drew p (upd H1 t o) H2) : Drew p H H2 := (a.new ht).trans b
theorem Drew.ne {p t : Addr} {H H1 : Hp} (a : Drew p H H1) (ht : H1 t = none) : t ≠ p := by
  obtain ⟨_, _, _, e, _⟩ := a.at_
  exact Ne.symm (ne_of_none e ht)
theorem Drew.seq {p l : Addr} {H H1 : Hp} {xs : List V} (a : Drew p H H1) (h : H l = some (.lst xs)) (n : l ≠ p) : H1 l = some (.lst xs) := a.kp _ _ n h
theorem Drew.wrap {p q : Addr} {H H1 : Hp} {x : Wr} (a : Drew p H H1) (hp : PurseAt H p) (h : WrapAt K H q x) : WrapAt K H1 q x := by
  obtain ⟨dx, t, h1, h2⟩ := h
  obtain ⟨_, _, _, e, _⟩ := hp
  refine ⟨dx, t, a.kp _ _ (fun z => ?_) h1, a.kp _ _ (fun z => ?_) h2⟩
  · rw [z, e] at h1
    cases h1
  · rw [z, e] at h2
    cases h2
theorem ok_L_root (T : Tx w K mg) : Prom P w K mg base CX0 3 "_law_root" s_L_root ["_law_bowl_here"] (spDraw 2 256) := by
  refine Prom.of T.d_L_root sc_L_root (fun vs H Q E h => ?_) (fun _ _ _ _ _ _ us hl => match us, hl with | [_], _ => rfl) (fun f cdv A outer s H vs Q E hr h => ?_)
  · obtain ⟨p, rfl, _⟩ := h
    rfl
  · obtain ⟨p, rfl, hp, k⟩ := h
    refine ⟨_, (pss_one (ps_ret (pe_callP (ok_L_one_of T) (hr.mono (by decide)) (by rfl) pass0 (pa_cons (pv 0) (pa_cons (pe_lst (pa_cons pe_int (pa_cons pe_int (pa_cons pe_int (pa_cons pe_int (pa_cons pe_int (pa_cons pe_int (pa_cons pe_int (pa_cons (pe_op op_add pe_int (pe_callP (ok_L_scoop T) (hr.mono (by decide)) (by rfl) pass0 (pa_cons (pv 0) (pa_cons pe_int pa_nil)))) pa_nil))))))))) pa_nil))))), ?_⟩
    refine ⟨_, rfl, _, rfl, p, _, rfl, hp, by decide, by decide, fun r H1 r0 r1 d1 => ?_⟩
    refine ⟨_, _, rfl, rfl, (by show 8 ≤ sizeLine; decide), fun t ht => ?_⟩
    refine ⟨p, t, _, rfl, (d1.new ht).at_, d1.ne ht, upd_same, (show 0 < 8 by decide), (show 8 ≤ 1000 by decide), fun i x H2 hx d2 => ?_⟩
    have d := drew_one d1 ht d2
    have fin : ∀ y : Int, 2 ≤ y → y ≤ 256 → x = .int y → Q x H2 := fun y h1 h2 e => by
      rw [e]
      exact k y H2 h1 h2 d
    match i, hx with
    | 0, hx => exact fin 10 (by decide) (by decide) (Option.some.inj hx).symm
    | 1, hx => exact fin 10 (by decide) (by decide) (Option.some.inj hx).symm
    | 2, hx => exact fin 2 (by decide) (by decide) (Option.some.inj hx).symm
    | 3, hx => exact fin 16 (by decide) (by decide) (Option.some.inj hx).symm
    | 4, hx => exact fin 128 (by decide) (by decide) (Option.some.inj hx).symm
    | 5, hx => exact fin 256 (by decide) (by decide) (Option.some.inj hx).symm
    | 6, hx => exact fin 3 (by decide) (by decide) (Option.some.inj hx).symm
    | 7, hx => exact fin (2 + r) (by omega) (by omega) (Option.some.inj hx).symm
    | n + 8, hx => exact absurd hx (by simp)
end
set_option pp.maxSteps 900
/-! ### plans: a wrap as a list of its kind and its numbers -/
def PlanAt (H : Hp) (q : Addr) (a : Wr) : Prop := H q = some (.lst (V.str a.kind :: a.nums.map V.int))
inductive PlansAt (H : Hp) : List V → List Wr → Prop where
  | nil : PlansAt H [] []
  | cons {p : Addr} {a : Wr} {xs : List V} {ws : List Wr} (h : PlanAt H p a) (r : PlansAt H xs ws) : PlansAt H (.ref p :: xs) (a :: ws)
theorem PlansAt.len {H : Hp} {xs : List V} {ws : List Wr} (h : PlansAt H xs ws) : xs.length = ws.length := by
  induction h with
  | nil => rfl
  | cons _ _ ih => exact congrArg (· + 1) ih
theorem PlansAt.get {H : Hp} {xs : List V} {ws : List Wr} (h : PlansAt H xs ws) : ∀ {i : Nat} {x : V}, xs[i]? = some x → ∃ (p : Addr) (a : Wr), x = .ref p ∧ ws[i]? = some a ∧ PlanAt H p a := by
  induction h with
  | nil =>
    intro i x e
    simp at e
  | cons h _ ih =>
    intro i x e
    cases i with
    | zero =>
      simp at e
      exact ⟨_, _, e.symm, rfl, h⟩
    | succ i => exact ih (by simpa using e)
theorem PlansAt.same {H H' : Hp} {xs : List V} {ws : List Wr} (h : PlansAt H xs ws) (s : Same H H') : PlansAt H' xs ws := by
  induction h with
  | nil => exact .nil
  | cons h _ ih => exact .cons (s _ _ h) ih
theorem PlansAt.snoc {H : Hp} {xs : List V} {ws : List Wr} {p : Addr} {a : Wr} (h : PlansAt H xs ws) (hx : PlanAt H p a) : PlansAt H (xs ++ [.ref p]) (ws ++ [a]) := by
  induction h with
  | nil => exact .cons hx .nil
  | cons h _ ih => exact .cons h ih
theorem PlansAt.drop {H : Hp} {xs : List V} {ws : List Wr} (h : PlansAt H xs ws) : ∀ i : Nat, PlansAt H (xs.drop i) (ws.drop i) := by
  induction h with
  | nil => intro i; simp; exact .nil
  | cons h r ih =>
    intro i
    cases i with
    | zero => exact .cons h r
    | succ i => exact ih i
/-- what differs from the bowl and the list stays -/
theorem PlansAt.kp {H H' : Hp} {xs : List V} {ws : List Wr} (h : PlansAt H xs ws) (k : ∀ p a, PlanAt H p a → V.ref p ∈ xs → PlanAt H' p a) : PlansAt H' xs ws := by
  induction h with
  | nil => exact .nil
  | cons h _ ih => exact .cons (k _ _ h (List.mem_cons_self ..)) (ih fun p a hp hm => k p a hp (List.mem_cons_of_mem _ hm))
/-- str of a text or a number -/
def strV : V → Option Str
  | .str y => some y
  | .int i => if i.natAbs.log2 < 1920 then some (toString i) else none
  | _ => none
theorem cr_strV {X : Cx} : CallR X (.type "str") (fun xs H Q => ∃ v z, xs = [v] ∧ strV v = some z ∧ Q (.str z) H) := by
  intro pins s σ H xs us Q I r h
  obtain ⟨v, z, rfl, hz, q⟩ := h
  cases v with
  | str y =>
    obtain rfl : y = z := Option.some.inj hz
    exact SkE.call_str_str pins s σ H _ us Q I r ⟨y, rfl, q⟩
  | int i =>
    by_cases c : i.natAbs.log2 < 1920
    · have hz2 : (if i.natAbs.log2 < 1920 then some (toString i : Str) else none) = some z := hz
      rw [if_pos c] at hz2
      obtain rfl := Option.some.inj hz2
      exact call_str_int pins s σ H _ us Q I r ⟨i, rfl, c, q⟩
    · have hz2 : (if i.natAbs.log2 < 1920 then some (toString i : Str) else none) = some z := hz
      rw [if_neg c] at hz2
      cases hz2
  | _ => cases hz
def spSmall : Sp := fun vs H Q _ => ∃ (p : Addr) (m : Int), vs = [.ref p, .int m] ∧ PurseAt H p ∧ 0 ≤ m ∧ m ≤ 1000 ∧ ∀ r H', 0 ≤ r → Drew p H H' → Q (.int r) H'
def spPlan : Sp := fun vs H Q _ => ∃ (p : Addr) (r : Int), vs = [.ref p, .int r] ∧ PurseAt H p ∧ 1 ≤ r ∧ r ≤ 120 ∧ ∀ q a H', a.ok → a.use ≤ r → H q = none → Drew p H H' → PlanAt H' q a → Q (.ref q) H'
def spFineP : Sp := fun vs H Q _ => ∃ (q : Addr) (a : Wr), vs = [.ref q] ∧ PlanAt H q a ∧ a.ok ∧ ∀ H', Same H H' → Q (.int a.use) H'
def spWordsP : Sp := fun vs H Q _ => ∃ (q : Addr) (a : Wr), vs = [.ref q] ∧ PlanAt H q a ∧ a.ok ∧ ∀ H', Same H H' → Q (.str a.text) H'
def spRowsP : Sp := fun vs H Q _ => ∃ (l : Addr) (b : Int) (xs : List V) (ws : List Wr), vs = [.int b, .ref l] ∧ H l = some (.lst xs) ∧ PlansAt H xs ws ∧ StkOk b ws ∧ ∀ H', Same H H' → Q (.str (stkText b ws)) H'
section
variable {P : Program} {w : World} {K : PySem.W.Frag} {mg : Str → Option Value} {base : Heap}
theorem ok_L_small (T : Tx w K mg) : Prom P w K mg base CX0 3 "_law_small" s_L_small ["_law_bowl_here", "_law_most"] spSmall := by
  refine Prom.of T.d_L_small sc_L_small (fun vs H Q E h => ?_) (fun _ _ _ _ _ _ us hl => match us, hl with | [_, _], _ => rfl) (fun f cdv A outer s H vs Q E hr h => ?_)
  · obtain ⟨p, m, rfl, _⟩ := h
    rfl
  · obtain ⟨p, m, rfl, hp, m0, m1, k⟩ := h
    refine ⟨_, (pss_one (ps_ret (pe_callP (ok_L_one_of T) (hr.mono (by decide)) (by rfl) pass0 (pa_cons (pv 0) (pa_cons (pe_lst (pa_cons pe_int (pa_cons pe_int (pa_cons pe_int (pa_cons pe_int (pa_cons (pe_callP (ok_L_scoop T) (hr.mono (by decide)) (by rfl) pass0 (pa_cons (pv 0) (pa_cons pe_int pa_nil))) (pa_cons (pv 1) (pa_cons (pe_callP (ok_L_scoop T) (hr.mono (by decide)) (by rfl) pass0 (pa_cons (pv 0) (pa_cons (pe_op op_add (pv 1) pe_int) pa_nil))) pa_nil)))))))) pa_nil))))), ?_⟩
    refine ⟨_, rfl, _, rfl, p, _, rfl, hp, by decide, by decide, fun r H1 r0 r1 d1 => ?_⟩
    refine ⟨_, rfl, _, rfl, _, rfl, _, _, rfl, rfl, p, _, rfl, d1.at_, by omega, by omega, fun r2 H2 r20 r21 d2 => ?_⟩
    have d2 := d1.trans d2
    refine ⟨(by show 7 ≤ sizeLine; decide), fun t ht => ?_⟩
    refine ⟨p, t, _, rfl, (d2.new ht).at_, d2.ne ht, upd_same, (show 0 < 7 by decide), (show 7 ≤ 1000 by decide), fun i x H3 hx d3 => ?_⟩
    have d := drew_one d2 ht d3
    have fin : ∀ y : Int, 0 ≤ y → x = .int y → Q x H3 := fun y h1 e => by
      rw [e]
      exact k y H3 h1 d
    match i, hx with
    | 0, hx => exact fin 0 (by decide) (Option.some.inj hx).symm
    | 1, hx => exact fin 1 (by decide) (Option.some.inj hx).symm
    | 2, hx => exact fin 2 (by decide) (Option.some.inj hx).symm
    | 3, hx => exact fin 3 (by decide) (Option.some.inj hx).symm
    | 4, hx => exact fin r r0 (Option.some.inj hx).symm
    | 5, hx => exact fin m m0 (Option.some.inj hx).symm
    | 6, hx => exact fin r2 r20 (Option.some.inj hx).symm
    | n + 7, hx => exact absurd hx (by simp)
theorem ok_L_fine (T : Tx w K mg) : Prom P w K mg base CX0 1 "_law_fine" s_L_fine ["_law_plan_here"] spFineP := by
  refine Prom.of T.d_L_fine sc_L_fine (fun vs H Q E h => ?_) (fun _ _ _ _ _ _ us hl => match us, hl with | [_], _ => rfl) (fun f cdv A outer s H vs Q E hr h => ?_)
  · obtain ⟨q, a, rfl, _⟩ := h
    rfl
  · obtain ⟨q, a, rfl, hq, ok, k⟩ := h
    have hq : H q = _ := hq
    refine ⟨_, (pss_cons (ps_if (pt_cmpR op_eq (pe_ix ix_list (pv 0) pe_int (fun _ _ => rfl)) pe_str (nomark _)) (pss_one (ps_ret (pe_op op_mul (pe_ix ix_list (pv 0) pe_int (fun _ _ => rfl)) (pe_ix ix_list (pv 0) pe_int (fun _ _ => rfl))))) pss_nil)
      (pss_one (ps_ret (pe_ifExp (pt_cmpR op_in_seq (pe_ix ix_list (pv 0) pe_int (fun _ _ => rfl)) (pe_lst (pa_cons pe_str (pa_cons pe_str (pa_cons pe_str pa_nil)))) (by rfl)) (pe_ix ix_list (pv 0) pe_int (fun _ _ => rfl)) pe_int)))), ?_⟩
    refine ⟨_, rfl, q, _, _, .str a.kind, rfl, rfl, SqL.of hq, at_of (j := 0) rfl rfl, rfl, _, rfl, ?_⟩
    cases a with
    | coded m c =>
      simp only [Wr.ok] at ok
      exact ifd_pos rfl ⟨_, rfl, q, _, _, .int m, rfl, rfl, SqL.of hq, at_of (j := 1) rfl rfl, _, rfl, q, _, _, .int c, rfl, rfl, SqL.of hq, at_of (j := 2) rfl rfl, _, _, rfl, rfl, .inl ⟨by omega, by omega⟩, k _ (Same.refl _)⟩
    | plus c =>
      refine ifs_neg (show ("plus" : Str) ≠ "coded" by decide) ⟨_, rfl, q, _, _, .str "plus", rfl, rfl, SqL.of hq, at_of (j := 0) rfl rfl, (by show 3 ≤ sizeLine; decide), fun l hl => ?_⟩
      exact ⟨l, _, rfl, .inl (SqL.of upd_same), rfl, rfl, _, rfl, ifb_neg (by kernel_rfl) (k _ (up hl))⟩
    | told c =>
      refine ifs_neg (show ("told" : Str) ≠ "coded" by decide) ⟨_, rfl, q, _, _, .str "told", rfl, rfl, SqL.of hq, at_of (j := 0) rfl rfl, (by show 3 ≤ sizeLine; decide), fun l hl => ?_⟩
      exact ⟨l, _, rfl, .inl (SqL.of upd_same), rfl, rfl, _, rfl, ifb_neg (by kernel_rfl) (k _ (up hl))⟩
    | whole c =>
      refine ifs_neg (show ("whole" : Str) ≠ "coded" by decide) ⟨_, rfl, q, _, _, .str "whole", rfl, rfl, SqL.of hq, at_of (j := 0) rfl rfl, (by show 3 ≤ sizeLine; decide), fun l hl => ?_⟩
      exact ⟨l, _, rfl, .inl (SqL.of upd_same), rfl, rfl, _, rfl, ifb_neg (by kernel_rfl) (k _ (up hl))⟩
    | pieces m c =>
      refine ifs_neg (show ("pieces" : Str) ≠ "coded" by decide) ⟨_, rfl, q, _, _, .str "pieces", rfl, rfl, SqL.of hq, at_of (j := 0) rfl rfl, (by show 3 ≤ sizeLine; decide), fun l hl => ?_⟩
      exact ⟨l, _, rfl, .inl (SqL.of upd_same), rfl, rfl, _, rfl, ifb_pos (by kernel_rfl) ⟨_, rfl, q, _, _, .int m, rfl, rfl, SqL.of (up hl _ _ hq), at_of (j := 1) rfl rfl, k _ (up hl)⟩⟩
    | cut m c =>
      refine ifs_neg (show ("cut" : Str) ≠ "coded" by decide) ⟨_, rfl, q, _, _, .str "cut", rfl, rfl, SqL.of hq, at_of (j := 0) rfl rfl, (by show 3 ≤ sizeLine; decide), fun l hl => ?_⟩
      exact ⟨l, _, rfl, .inl (SqL.of upd_same), rfl, rfl, _, rfl, ifb_pos (by kernel_rfl) ⟨_, rfl, q, _, _, .int m, rfl, rfl, SqL.of (up hl _ _ hq), at_of (j := 1) rfl rfl, k _ (up hl)⟩⟩
    | filled m =>
      refine ifs_neg (show ("filled" : Str) ≠ "coded" by decide) ⟨_, rfl, q, _, _, .str "filled", rfl, rfl, SqL.of hq, at_of (j := 0) rfl rfl, (by show 3 ≤ sizeLine; decide), fun l hl => ?_⟩
      exact ⟨l, _, rfl, .inl (SqL.of upd_same), rfl, rfl, _, rfl, ifb_pos (by kernel_rfl) ⟨_, rfl, q, _, _, .int m, rfl, rfl, SqL.of (up hl _ _ hq), at_of (j := 1) rfl rfl, k _ (up hl)⟩⟩
theorem ok_L_words (T : Tx w K mg) : Prom P w K mg base CX0 1 "_law_words" s_L_words ["_law_plan_here"] spWordsP := by
  refine Prom.of T.d_L_words sc_L_words (fun vs H Q E h => ?_) (fun _ _ _ _ _ _ us hl => match us, hl with | [_], _ => rfl) (fun f cdv A outer s H vs Q E hr h => ?_)
  · obtain ⟨q, a, rfl, _⟩ := h
    rfl
  · obtain ⟨q, a, rfl, hq, ok, k⟩ := h
    have hq : H q = _ := hq
    have nt := nums_two a
    refine ⟨_, (pss_one (ps_ret (pe_join pe_str (pe_lc (own := [("_law_thing", 1)]) (g := (gName 1)) (tt := tYes) (by rfl) sc_L_words.nd (pi_list (pv 0)) (blkOk_by (own := [("_law_thing", 1)]) (N := ["_law_plan_here", "_law_thing"]) (sc := defScope s_L_words) (by decide +kernel)) (fun _ _ _ _ _ => (pg_name (i := 1) sc_L_words.nd rfl (Or.inl rfl))) (fun _ _ _ _ _ => pts_nil) (fun _ _ _ _ _ => (pe_callTy cr_strV (by rfl) T.b_str (by decide +kernel) (pa_cons (pv 1) pa_nil))))))), ?_⟩
    refine ⟨⟨_, rfl⟩, _, rfl, q, rfl, ⟨_, SqL.of hq⟩, fun D hD => ?_⟩
    refine lc_list (K := K) (a := q) (xs := V.str a.kind :: a.nums.map V.int) (Pv := fun i H' => Same H H' ∧ H' D = some (.lst (((a.kind :: a.nums.map fun i => (toString i : Str)).take i).map V.str))) ⟨up hD, upd_same⟩ (fun i H' _ h => SqL.of (h.1 _ _ hq)) ?_ ?_
    · rintro i x H' hi ⟨hs, hd⟩
      obtain ⟨z, hz, hx⟩ : ∃ z, (a.kind :: a.nums.map fun i => (toString i : Str))[i]? = some z ∧ strV x = some z := by
        cases i with
        | zero =>
          have e : V.str a.kind = x := Option.some.inj hi
          subst e
          exact ⟨_, rfl, rfl⟩
        | succ i =>
          have hi : (a.nums.map V.int)[i]? = some x := hi
          obtain ⟨n, hn, rfl⟩ := int_at hi
          have sm := nums_small ok n (List.mem_of_getElem? hn)
          refine ⟨toString n, ?_, if_pos (log2_small sm.1 (by omega))⟩
          show (a.nums.map fun i => (toString i : Str))[i]? = _
          rw [List.getElem?_map, hn]
          rfl
      refine ⟨rfl, _, rfl, x, z, rfl, hx, _, hd, ?_, fun y o e => ?_, ?_⟩
      · rw [List.length_map, sizeLine_eq]
        have := List.length_take_le' i (a.kind :: a.nums.map fun i => (toString i : Str))
        rw [List.length_cons, List.length_map] at this
        omega
      · rw [upd_ne (ne_of_none e hD)]
        exact hs _ _ e
      · rw [upd_same, List.take_succ, hz, List.map_append]
        rfl
    · rintro H' ⟨hs, hd⟩
      have e : (V.str a.kind :: a.nums.map V.int).length = (a.kind :: a.nums.map fun i => (toString i : Str)).length := by simp
      rw [e, List.take_length] at hd
      have h2 := sum_short a.nums fun z hz => by have := nums_small ok z hz; omega
      have h3 := kind_len a
      have h5 : (" " : Str).length = 1 := by decide
      refine ⟨_, D, a.kind :: a.nums.map fun i => (toString i : Str), rfl, rfl, .inl (SqL.of hd), ?_, k _ hs⟩
      simp only [List.map_cons, List.sum_cons, List.length_cons, List.length_map]
      rw [h5]
      omega
theorem ok_L_rows (T : Tx w K mg) : Prom P w K mg base CX0 2 "_law_rows" s_L_rows ["_law_root_here", "_law_plans"] spRowsP := by
  refine Prom.of T.d_L_rows sc_L_rows (fun vs H Q E h => ?_) (fun _ _ _ _ _ _ us hl => match us, hl with | [_, _], _ => rfl) (fun f cdv A outer s H vs Q E hr h => ?_)
  · obtain ⟨l, b, xs, ws, rfl, _⟩ := h
    rfl
  · obtain ⟨l, b, xs, ws, rfl, hl, hw, so, k⟩ := h
    have hlx := hw.len
    have l6 := so.len
    have b0 := so.b0
    have b1 := so.b1
    have bl := small_text (b := b) (by omega) b1
    have e5 : ("base " : Str).length = 5 := by decide
    refine ⟨_, (pss_one (ps_ret (pe_join pe_str (pe_op op_cat (pe_lst (pa_cons (pe_op op_add_str pe_str (pe_callTy call_str_int (by rfl) T.b_str (by decide +kernel) (pa_cons (pv 0) pa_nil))) pa_nil)) (pe_lc (own := [("_law_plan_here", 2)]) (g := (gName 2)) (tt := tYes) (by rfl) sc_L_rows.nd (pi_list (pv 1)) (blkOk_by (own := [("_law_plan_here", 2)]) (N := ["_law_root_here", "_law_plans", "_law_plan_here"]) (sc := defScope s_L_rows) (by decide +kernel)) (fun _ _ _ _ _ => (pg_name (i := 2) sc_L_rows.nd rfl (Or.inl rfl))) (fun _ _ _ _ _ => pts_nil) (fun _ _ _ _ _ => (pe_callP (ok_L_words T) (hr.mono (by decide)) (by rfl) pass0 (pa_cons (pv 2) pa_nil)))))))), ?_⟩
    refine ⟨⟨_, rfl⟩, _, rfl, b, rfl, log2_small (by omega) (by omega), _, _, rfl, rfl, by rw [e5, sizeLine_eq]; omega, (by show 1 ≤ sizeLine; decide), fun l1 hl1 => ?_⟩
    have v1 := up (o := .lst [.str ("base " ++ (toString b : Str))]) hl1
    have hlv := v1 _ _ hl
    refine ⟨_, rfl, l, rfl, ⟨_, SqL.of hlv⟩, fun D hD => ?_⟩
    refine lc_list (K := K) (a := l) (xs := xs) (Pv := fun i H' => Same (upd H l1 (.lst [.str ("base " ++ (toString b : Str))])) H' ∧ H' D = some (.lst ((ws.take i).map fun z => V.str z.text))) ⟨up hD, upd_same⟩ (fun i H' _ h => SqL.of (h.1 _ _ hlv)) ?_ ?_
    · rintro i x H' hi ⟨hs, hd⟩
      obtain ⟨q, a, rfl, ha, hq⟩ := (hw.same (v1.trans hs)).get hi
      refine ⟨rfl, _, rfl, q, a, rfl, hq, so.ok a (List.mem_of_getElem? ha), fun H3 s3 => ⟨_, s3 _ _ hd, ?_, fun y o e => ?_, ?_⟩⟩
      · rw [List.length_map, List.length_take, sizeLine_eq]
        omega
      · rw [upd_ne (ne_of_none e hD)]
        exact s3 _ _ (hs _ _ e)
      · rw [upd_same, List.take_succ, ha, List.map_append]
        rfl
    · rintro H' ⟨hs, hd⟩
      rw [hlx, List.take_length] at hd
      refine ⟨l1, D, _, _, rfl, rfl, hs _ _ upd_same, hd, ?_, fun l3 hl3 => ?_⟩
      · rw [List.length_map, List.length_singleton, sizeLine_eq]
        omega
      have eb : (("base " : Str) ++ (toString b : Str)) = baseText b := by
        unfold baseText
        rw [PySem.Str.empty_append]
      have el2 : [V.str ("base " ++ (toString b : Str))] ++ ws.map (fun z => V.str z.text) = (baseText b :: ws.map Wr.text).map V.str := by
        rw [eb]
        simp
      refine ⟨_, l3, baseText b :: ws.map Wr.text, rfl, rfl, .inl (SqL.of (by rw [← el2]; exact upd_same)), ?_, k _ ((v1.trans hs).trans (up hl3))⟩
      have h1 := texts_sum so.ok
      have h2 : ("\n" : Str).length = 1 := by decide
      have h3 : (baseText b).length ≤ 9 := by
        rw [← eb, PySem.Str.length_append]
        omega
      simp only [List.map_cons, List.sum_cons, List.length_cons, List.length_map] at h1 ⊢
      rw [h2]
      omega
end
set_option pp.maxSteps 900
theorem new_beforeB {p q : Addr} {H H1 : Hp} (d : Drew p H H1) (h : H1 q = none) : H q = none := by
  cases e : H q with
  | none => rfl
  | some o =>
    have n : q ≠ p := fun z => by
      obtain ⟨_, _, _, e2, _⟩ := d.at_
      rw [z, e2] at h
      cases h
    rw [d.kp _ _ n e] at h
    cases h
theorem use_most {a : Wr} (h : a.ok) : a.use ≤ 7200 := by
  cases a <;> simp only [Wr.ok] at h <;> simp only [Wr.use] <;> try omega
  rename_i m c
  have := Int.mul_le_mul h.2.1 h.2.2.2 (by omega) (show (0 : Int) ≤ 60 by decide)
  omega
def spFinenessP : Sp := fun vs H Q _ => ∃ (l : Addr) (xs : List V) (ws : List Wr), vs = [.ref l] ∧ H l = some (.lst xs) ∧ PlansAt H xs ws ∧ (∀ a ∈ ws, a.ok) ∧ ws.length ≤ 6 ∧ ∀ H', Same H H' → Q (.int (fineL ws)) H'
def spFarB : Sp := fun vs H Q _ => ∃ (p : Addr) (b : Int), vs = [.ref p, .int b] ∧ PurseAt H p ∧ 2 ≤ b ∧ b ≤ 256 ∧ ∀ r H', 0 ≤ r → r ≤ 10 ^ 60 - 1 → Drew p H H' → Q (.int r) H'
section
variable {P : Program} {w : World} {K : PySem.W.Frag} {mg : Str → Option Value} {base : Heap}
theorem ok_L_plan (T : Tx w K mg) : Prom P w K mg base CX0 4 "_law_plan" s_L_plan ["_law_bowl_here", "_law_room"] spPlan := by
  refine Prom.of T.d_L_plan sc_L_plan (fun vs H Q E h => ?_) (fun _ _ _ _ _ _ us hl => match us, hl with | [_, _], _ => rfl) (fun f cdv A outer s H vs Q E hr h => ?_)
  · obtain ⟨p, r, rfl, _⟩ := h
    rfl
  · obtain ⟨p, rm, rfl, hp, r0', rm1, k⟩ := h
    refine ⟨_, (pss_cons (ps_set (i := 2) sc_L_plan.nd rfl (Or.inl rfl) (pe_callP (ok_L_one_of T) (hr.mono (by decide)) (by rfl) pass0 (pa_cons (pv 0) (pa_cons (pe_lst (pa_cons pe_str (pa_cons pe_str (pa_cons pe_str (pa_cons pe_str (pa_cons pe_str (pa_cons pe_str (pa_cons pe_str (pa_cons pe_str (pa_cons pe_str pa_nil)))))))))) pa_nil))))
      (pss_cons (ps_if (pt_cmpR op_in_seq (pv 2) (pe_lst (pa_cons pe_str (pa_cons pe_str (pa_cons pe_str pa_nil)))) (by rfl)) (pss_one (ps_ret (pe_lst (pa_cons (pv 2) (pa_cons (pe_callB (call_min2 rfl) (by rfl) T.b_min (by decide +kernel) (pa_cons pe_int (pa_cons (pe_callP (ok_L_small T) (hr.mono (by decide)) (by rfl) pass0 (pa_cons (pv 0) (pa_cons pe_int pa_nil))) pa_nil))) pa_nil))))) pss_nil)
      (pss_cons (ps_set (i := 3) sc_L_plan.nd rfl (Or.inl rfl) (pe_op op_add pe_int (pe_callP (ok_L_scoop T) (hr.mono (by decide)) (by rfl) pass0 (pa_cons (pv 0) (pa_cons (pe_callB (call_min2 rfl) (by rfl) T.b_min (by decide +kernel) (pa_cons pe_int (pa_cons (pv 1) pa_nil))) pa_nil)))))
      (pss_cons (ps_if (pt_cmpR op_eq (pv 2) pe_str (nomark _)) (pss_one (ps_ret (pe_lst (pa_cons (pv 2) (pa_cons (pv 3) pa_nil))))) pss_nil)
      (pss_cons (ps_if (pt_cmpR op_in_seq (pv 2) (pe_lst (pa_cons pe_str (pa_cons pe_str pa_nil))) (by rfl)) (pss_one (ps_ret (pe_lst (pa_cons (pv 2) (pa_cons (pv 3) (pa_cons (pe_callB (call_min2 rfl) (by rfl) T.b_min (by decide +kernel) (pa_cons pe_int (pa_cons (pe_callP (ok_L_small T) (hr.mono (by decide)) (by rfl) pass0 (pa_cons (pv 0) (pa_cons pe_int pa_nil))) pa_nil))) pa_nil)))))) pss_nil)
      (pss_cons (ps_while PassesOwn.never (pt_cmp (pc_gt (pe_op op_mul (pv 3) (pv 3)) (pv 1))) (pss_one (ps_set (i := 3) sc_L_plan.nd rfl (Or.inl rfl) (pe_op op_add pe_int (pe_op op_fdiv (pv 3) pe_int)))))
      (pss_one (ps_ret (pe_lst (pa_cons (pv 2) (pa_cons (pv 3) (pa_cons (pe_op op_add (pv 3) (pe_callP (ok_L_scoop T) (hr.mono (by decide)) (by rfl) pass0 (pa_cons (pv 0) (pa_cons (pe_op op_add (pe_op op_sub (pe_callB (call_min2 rfl) (by rfl) T.b_min (by decide +kernel) (pa_cons pe_int (pa_cons (pe_op op_fdiv (pv 1) (pv 3)) pa_nil))) (pv 3)) pe_int) pa_nil)))) pa_nil)))))))))))), ?_⟩
    refine ⟨_, rfl, (by show 9 ≤ sizeLine; decide), fun t ht => ?_⟩
    have d0 := (Drew.refl hp).new (o := .lst [V.str "told", V.str "whole", V.str "plus", V.str "told", V.str "whole", V.str "pieces", V.str "cut", V.str "coded", V.str "filled"]) ht
    refine ⟨p, t, _, rfl, d0.at_, (Drew.refl hp).ne ht, upd_same, (show 0 < 9 by decide), (show 9 ≤ 1000 by decide), fun i x H1 hx d1 => ?_⟩
    have d1 := d0.trans d1
    obtain ⟨s, rfl, hs⟩ : ∃ s : Str, x = .str s ∧ (s = "told" ∨ s = "whole" ∨ s = "plus" ∨ s = "pieces" ∨ s = "cut" ∨ s = "coded" ∨ s = "filled") := by
      match i, hx with
      | 0, hx => exact ⟨_, (Option.some.inj hx).symm, .inl rfl⟩
      | 1, hx => exact ⟨_, (Option.some.inj hx).symm, .inr (.inl rfl)⟩
      | 2, hx => exact ⟨_, (Option.some.inj hx).symm, .inr (.inr (.inl rfl))⟩
      | 3, hx => exact ⟨_, (Option.some.inj hx).symm, .inl rfl⟩
      | 4, hx => exact ⟨_, (Option.some.inj hx).symm, .inr (.inl rfl)⟩
      | 5, hx => exact ⟨_, (Option.some.inj hx).symm, .inr (.inr (.inr (.inl rfl)))⟩
      | 6, hx => exact ⟨_, (Option.some.inj hx).symm, .inr (.inr (.inr (.inr (.inl rfl))))⟩
      | 7, hx => exact ⟨_, (Option.some.inj hx).symm, .inr (.inr (.inr (.inr (.inr (.inl rfl)))))⟩
      | 8, hx => exact ⟨_, (Option.some.inj hx).symm, .inr (.inr (.inr (.inr (.inr (.inr rfl)))))⟩
      | n + 9, hx => exact absurd hx (by simp)
    rcases hs with rfl | rfl | rfl | rfl | rfl | rfl | rfl
    · refine ⟨_, rfl, (by show 3 ≤ sizeLine; decide), fun l hl => ⟨l, _, rfl, .inl (SqL.of upd_same), rfl, rfl, _, rfl, ifb_pos (by kernel_rfl) ?_⟩⟩
      have d2 := d1.new (o := .lst [V.str "told", V.str "whole", V.str "plus"]) hl
      refine ⟨_, rfl, _, rfl, p, _, rfl, d2.at_, by decide, by decide, fun r H2 r0 d3 => ⟨_, _, rfl, (by show 2 ≤ sizeLine; decide), fun q hq => ?_⟩⟩
      have d3 := d2.trans d3
      exact k q (Wr.told (if r < 1000 then r else 1000)) _ ⟨by split <;> omega, by split <;> omega⟩ r0' (new_beforeB d3 hq) (d3.new hq) upd_same
    · refine ⟨_, rfl, (by show 3 ≤ sizeLine; decide), fun l hl => ⟨l, _, rfl, .inl (SqL.of upd_same), rfl, rfl, _, rfl, ifb_pos (by kernel_rfl) ?_⟩⟩
      have d2 := d1.new (o := .lst [V.str "told", V.str "whole", V.str "plus"]) hl
      refine ⟨_, rfl, _, rfl, p, _, rfl, d2.at_, by decide, by decide, fun r H2 r0 d3 => ⟨_, _, rfl, (by show 2 ≤ sizeLine; decide), fun q hq => ?_⟩⟩
      have d3 := d2.trans d3
      exact k q (Wr.whole (if r < 1000 then r else 1000)) _ ⟨by split <;> omega, by split <;> omega⟩ r0' (new_beforeB d3 hq) (d3.new hq) upd_same
    · refine ⟨_, rfl, (by show 3 ≤ sizeLine; decide), fun l hl => ⟨l, _, rfl, .inl (SqL.of upd_same), rfl, rfl, _, rfl, ifb_pos (by kernel_rfl) ?_⟩⟩
      have d2 := d1.new (o := .lst [V.str "told", V.str "whole", V.str "plus"]) hl
      refine ⟨_, rfl, _, rfl, p, _, rfl, d2.at_, by decide, by decide, fun r H2 r0 d3 => ⟨_, _, rfl, (by show 2 ≤ sizeLine; decide), fun q hq => ?_⟩⟩
      have d3 := d2.trans d3
      exact k q (Wr.plus (if r < 1000 then r else 1000)) _ ⟨by split <;> omega, by split <;> omega⟩ r0' (new_beforeB d3 hq) (d3.new hq) upd_same
    · refine ⟨_, rfl, (by show 3 ≤ sizeLine; decide), fun l hl => ⟨l, _, rfl, .inl (SqL.of upd_same), rfl, rfl, _, rfl, ifb_neg (by kernel_rfl) ?_⟩⟩
      have d2 := d1.new (o := .lst [V.str "told", V.str "whole", V.str "plus"]) hl
      generalize upd H1 l (.lst [V.str "told", V.str "whole", V.str "plus"]) = H2 at d2 ⊢
      refine ⟨_, rfl, _, rfl, _, _, rfl, p, _, rfl, d2.at_, by split <;> omega, by split <;> omega, fun r H3 r0 r1 d3 => ⟨_, _, rfl, rfl, ?_⟩⟩
      have d3 := d2.trans d3
      have q0 : 1 ≤ 1 + r := by omega
      have q1 : 1 + r ≤ 60 ∧ 1 + r ≤ rm := by split at r1 <;> omega
      show gName 3 (V.int (1 + r)) _ _ _
      generalize 1 + r = pt at q0 q1 ⊢
      refine ⟨_, rfl, rfl, _, rfl, ifs_neg (show ("pieces" : Str) ≠ "filled" by decide) ?_⟩
      refine ⟨_, rfl, (by show 2 ≤ sizeLine; decide), fun l2 hl2 => ⟨l2, _, rfl, .inl (SqL.of upd_same), rfl, rfl, _, rfl, ifb_pos (by kernel_rfl) ?_⟩⟩
      have d4 := d3.new (o := .lst [V.str "cut", V.str "pieces"]) hl2
      refine ⟨_, rfl, _, rfl, _, rfl, p, _, rfl, d4.at_, by decide, by decide, fun z H4 z0 d5 => ⟨_, _, rfl, (by show 3 ≤ sizeLine; decide), fun q hq => ?_⟩⟩
      have d5 := d4.trans d5
      exact k q (Wr.pieces pt (if z < 60 then z else 60)) _ ⟨q0, q1.1, by split <;> omega, by split <;> omega⟩ q1.2 (new_beforeB d5 hq) (d5.new hq) upd_same
    · refine ⟨_, rfl, (by show 3 ≤ sizeLine; decide), fun l hl => ⟨l, _, rfl, .inl (SqL.of upd_same), rfl, rfl, _, rfl, ifb_neg (by kernel_rfl) ?_⟩⟩
      have d2 := d1.new (o := .lst [V.str "told", V.str "whole", V.str "plus"]) hl
      generalize upd H1 l (.lst [V.str "told", V.str "whole", V.str "plus"]) = H2 at d2 ⊢
      refine ⟨_, rfl, _, rfl, _, _, rfl, p, _, rfl, d2.at_, by split <;> omega, by split <;> omega, fun r H3 r0 r1 d3 => ⟨_, _, rfl, rfl, ?_⟩⟩
      have d3 := d2.trans d3
      have q0 : 1 ≤ 1 + r := by omega
      have q1 : 1 + r ≤ 60 ∧ 1 + r ≤ rm := by split at r1 <;> omega
      show gName 3 (V.int (1 + r)) _ _ _
      generalize 1 + r = pt at q0 q1 ⊢
      refine ⟨_, rfl, rfl, _, rfl, ifs_neg (show ("cut" : Str) ≠ "filled" by decide) ?_⟩
      refine ⟨_, rfl, (by show 2 ≤ sizeLine; decide), fun l2 hl2 => ⟨l2, _, rfl, .inl (SqL.of upd_same), rfl, rfl, _, rfl, ifb_pos (by kernel_rfl) ?_⟩⟩
      have d4 := d3.new (o := .lst [V.str "cut", V.str "pieces"]) hl2
      refine ⟨_, rfl, _, rfl, _, rfl, p, _, rfl, d4.at_, by decide, by decide, fun z H4 z0 d5 => ⟨_, _, rfl, (by show 3 ≤ sizeLine; decide), fun q hq => ?_⟩⟩
      have d5 := d4.trans d5
      exact k q (Wr.cut pt (if z < 60 then z else 60)) _ ⟨q0, q1.1, by split <;> omega, by split <;> omega⟩ q1.2 (new_beforeB d5 hq) (d5.new hq) upd_same
    · refine ⟨_, rfl, (by show 3 ≤ sizeLine; decide), fun l hl => ⟨l, _, rfl, .inl (SqL.of upd_same), rfl, rfl, _, rfl, ifb_neg (by kernel_rfl) ?_⟩⟩
      have d2 := d1.new (o := .lst [V.str "told", V.str "whole", V.str "plus"]) hl
      generalize upd H1 l (.lst [V.str "told", V.str "whole", V.str "plus"]) = H2 at d2 ⊢
      refine ⟨_, rfl, _, rfl, _, _, rfl, p, _, rfl, d2.at_, by split <;> omega, by split <;> omega, fun r H3 r0 r1 d3 => ⟨_, _, rfl, rfl, ?_⟩⟩
      have d3 := d2.trans d3
      have q0 : 1 ≤ 1 + r := by omega
      have q1 : 1 + r ≤ 60 ∧ 1 + r ≤ rm := by split at r1 <;> omega
      show gName 3 (V.int (1 + r)) _ _ _
      generalize 1 + r = pt at q0 q1 ⊢
      refine ⟨_, rfl, rfl, _, rfl, ifs_neg (show ("coded" : Str) ≠ "filled" by decide) ?_⟩
      refine ⟨_, rfl, (by show 2 ≤ sizeLine; decide), fun l2 hl2 => ⟨l2, _, rfl, .inl (SqL.of upd_same), rfl, rfl, _, rfl, ifb_neg (by kernel_rfl) ?_⟩⟩
      have d4 := d3.new (o := .lst [V.str "cut", V.str "pieces"]) hl2
      generalize upd H3 l2 (.lst [V.str "cut", V.str "pieces"]) = H4 at d4 ⊢
      refine ⟨fun m σ H5 => H5 = H4 ∧ ∃ g : Int, 1 ≤ g ∧ g ≤ 60 ∧ m = g.toNat ∧ σ = [some (.ref p), some (.int rm), some (.str "coded"), some (.int g)], ⟨_, rfl, pt, q0, q1.1, rfl, rfl⟩, ?_⟩
      rintro m σ H5 ⟨rfl, g, g0, g1, rfl, rfl⟩
      refine ⟨_, rfl, _, rfl, _, _, rfl, rfl, .inl ⟨by omega, by omega⟩, _, rfl, _, _, rfl, rfl, _, rfl, ifd (fun c => ?_) (fun c => ?_)⟩
      · have c : g * g > rm := c
        have g2 : 2 ≤ g := by
          by_cases z : g = 1
          · subst z
            omega
          · omega
        refine ⟨_, fun σ' H' h => h, ?_⟩
        refine ⟨_, rfl, _, _, rfl, rfl, ⟨by decide, by decide⟩, _, _, rfl, rfl, ?_⟩
        exact ⟨_, by show (1 + g / 3).toNat < g.toNat; omega, rfl, 1 + g / 3, by omega, by omega, rfl, rfl⟩
      · have c : ¬ g * g > rm := c
        have gd : g ≤ rm / g := (Int.le_ediv_iff_mul_le (by omega)).mpr (by omega)
        have gg : g * (rm / g) ≤ rm := by
          have := Int.ediv_mul_le rm (show g ≠ 0 by omega)
          rw [Int.mul_comm]
          exact this
        refine ⟨_, rfl, _, rfl, _, rfl, _, rfl, _, rfl, _, rfl, _, _, rfl, rfl, ⟨by omega, by omega⟩, _, _, rfl, _, rfl, _, _, rfl, rfl, _, _, rfl, rfl, p, _, rfl, d4.at_, by split <;> omega, by split <;> omega, fun y H6 y0 y1 d6 => ⟨_, _, rfl, rfl, (by show 3 ≤ sizeLine; decide), fun q hq => ?_⟩⟩
        have d6 := d4.trans d6
        have y2 : g + y ≤ 120 ∧ g + y ≤ rm / g := by split at y1 <;> omega
        have us : g * (g + y) ≤ rm := Int.le_trans (Int.mul_le_mul_of_nonneg_left y2.2 (by omega)) gg
        exact k q (Wr.coded g (g + y)) _ ⟨g0, g1, by omega, y2.1⟩ us (new_beforeB d6 hq) (d6.new hq) upd_same
    · refine ⟨_, rfl, (by show 3 ≤ sizeLine; decide), fun l hl => ⟨l, _, rfl, .inl (SqL.of upd_same), rfl, rfl, _, rfl, ifb_neg (by kernel_rfl) ?_⟩⟩
      have d2 := d1.new (o := .lst [V.str "told", V.str "whole", V.str "plus"]) hl
      generalize upd H1 l (.lst [V.str "told", V.str "whole", V.str "plus"]) = H2 at d2 ⊢
      refine ⟨_, rfl, _, rfl, _, _, rfl, p, _, rfl, d2.at_, by split <;> omega, by split <;> omega, fun r H3 r0 r1 d3 => ⟨_, _, rfl, rfl, ?_⟩⟩
      have d3 := d2.trans d3
      have q0 : 1 ≤ 1 + r := by omega
      have q1 : 1 + r ≤ 60 ∧ 1 + r ≤ rm := by split at r1 <;> omega
      show gName 3 (V.int (1 + r)) _ _ _
      generalize 1 + r = pt at q0 q1 ⊢
      refine ⟨_, rfl, rfl, _, rfl, ifd_pos rfl ?_⟩
      refine ⟨_, rfl, _, rfl, (by show 2 ≤ sizeLine; decide), fun q hq => ?_⟩
      exact k q (Wr.filled pt) _ ⟨q0, q1.1⟩ q1.2 (new_beforeB d3 hq) (d3.new hq) upd_same
theorem ok_L_fineness (T : Tx w K mg) : Prom P w K mg base CX0 2 "_law_fineness" s_L_fineness ["_law_plans"] spFinenessP := by
  refine Prom.of T.d_L_fineness sc_L_fineness (fun vs H Q E h => ?_) (fun _ _ _ _ _ _ us hl => match us, hl with | [_], _ => rfl) (fun f cdv A outer s H vs Q E hr h => ?_)
  · obtain ⟨l, xs, ws, rfl, _⟩ := h
    rfl
  · obtain ⟨l, xs, ws, rfl, hl, hw, ok, len, k⟩ := h
    refine ⟨_, (pss_cons (ps_set (i := 1) sc_L_fineness.nd rfl (Or.inl rfl) pe_int)
      (pss_cons (ps_for PassesOwn.never (by rfl) (pi_list (pv 0)) (pg_name (i := 2) sc_L_fineness.nd rfl (Or.inl rfl)) (pss_one (ps_set (i := 1) sc_L_fineness.nd rfl (Or.inl rfl) (pe_op op_mul (pv 1) (pe_callP (ok_L_fine T) (hr.mono (by decide)) (by rfl) pass0 (pa_cons (pv 2) pa_nil))))))
      (pss_one (ps_ret (pv 1))))), ?_⟩
    refine ⟨_, rfl, l, rfl, ⟨_, SqL.of hl⟩, for_list (K := K) (a := l) (xs := xs) (fun i σ H' => Same H H' ∧ ∃ v : Option V, σ = [some (.ref l), some (.int (fineL (ws.take i))), v]) ⟨Same.refl _, none, rfl⟩ (fun i σ H' _ h => SqL.of (h.1 _ _ hl)) ?_ ?_⟩
    · rintro i x σ H1 hi ⟨hs, v, rfl⟩
      obtain ⟨q, a, rfl, ha, hq⟩ := (hw.same hs).get hi
      have oka := ok a (List.mem_of_getElem? ha)
      have et : fineL (ws.take (i + 1)) = fineL (ws.take i) * a.use := by
        unfold fineL
        rw [List.take_succ, ha, List.foldl_append]
        show stepF _ a = _
        rw [step_use]
      rw [et]
      have up_ : a.use ≤ 7200 := use_most oka
      have u0 := use_pos oka
      refine ⟨_, rfl, _, rfl, q, a, rfl, hq, oka, fun H2 s2 => ⟨_, _, rfl, rfl, .inr ⟨by omega, by omega⟩, hs.trans s2, _, rfl⟩⟩
    · rintro σ H1 ⟨hs, v, rfl⟩
      rw [hw.len, List.take_length]
      exact ⟨_, rfl, k _ hs⟩
end
theorem nxt {i : Nat} {v : V} {σ : L2.St} {H : Hp} {Q : L2.St → Hp → Prop} (h : Q (σ.set i (some v)) H) : gName i v σ H Q := h
theorem seq_if {c : TT} {t u v : TS} {D : Ends} {σ : L2.St} {H : Hp} (R : L2.St → Hp → Prop) (h : ∀ N : L2.St → Hp → Prop, (∀ σ' H', R σ' H' → N σ' H') → tIfS c t u { D with nx := N } σ H) (k : ∀ σ' H', R σ' H' → v D σ' H') : tSeq (tIfS c t u) v D σ H := h _ k
set_option pp.maxSteps 900
theorem plan_ne {H : Hp} {q lf : Addr} {a : Wr} {ys : List V} {us : List Wr} (hq : PlanAt H q a) (hl : H lf = some (.lst ys)) (hy : PlansAt H ys us) : q ≠ lf := fun z => by
  have hq : H q = _ := hq
  rw [z, hl] at hq
  injection hq with hq
  injection hq with hq
  cases hy with
  | nil => cases hq
  | cons _ _ => injection hq with h1 _; cases h1
theorem plan_np {H : Hp} {q p : Addr} {a : Wr} (hq : PlanAt H q a) (hp : PurseAt H p) : q ≠ p := fun z => by
  obtain ⟨_, _, _, e, _⟩ := hp
  have hq : H q = _ := hq
  rw [z, e] at hq
  injection hq with hq
  injection hq with hq
  injection hq with h1 _
  cases h1
theorem Drew.plan {p q : Addr} {H H1 : Hp} {a : Wr} (d : Drew p H H1) (hp : PurseAt H p) (h : PlanAt H q a) : PlanAt H1 q a := d.kp _ _ (plan_np h hp) h
theorem Drew.plans {p : Addr} {H H1 : Hp} {xs : List V} {ws : List Wr} (d : Drew p H H1) (hp : PurseAt H p) (h : PlansAt H xs ws) : PlansAt H1 xs ws := h.kp fun q a hq _ => d.plan hp hq
theorem PlansAt.put {H : Hp} {lf : Addr} {xs ys zs : List V} {ws us : List Wr} (h : PlansAt H xs ws) (hl : H lf = some (.lst ys)) (hy : PlansAt H ys us) : PlansAt (upd H lf (.lst zs)) xs ws := h.kp fun q a hq _ => by
  show (upd H lf (.lst zs)) q = _
  rw [upd_ne (plan_ne hq hl hy)]
  exact hq
theorem Drew.putB {p l : Addr} {H H' : Hp} {o : HO} (a : Drew p H H') (h : H l = none) (n : l ≠ p) : Drew p H (upd H' l o) := by
  obtain ⟨m, d, c, e, r⟩ := a.at_
  refine ⟨⟨m, d, c, by rw [upd_ne (Ne.symm n)]; exact e, r⟩, fun b u nb e => ?_⟩
  rw [upd_ne (ne_of_none e h)]
  exact a.kp b u nb e
def spPileP : Sp := fun vs H Q _ => ∃ (p : Addr) (b m : Int), vs = [.ref p, .int b, .int m, .int 120] ∧ PurseAt H p ∧ 2 ≤ b ∧ b ≤ 256 ∧ 0 ≤ m ∧ m ≤ 6 ∧ ∀ l xs ws H', (∀ a ∈ ws, a.ok) → (ws.length : Int) ≤ m → fineL ws ≤ 120 → H l = none → Drew p H H' → H' l = some (.lst xs) → PlansAt H' xs ws → Q (.ref l) H'
def spHandful : Sp := fun vs H Q _ => ∃ (p : Addr) (b m : Int), vs = [.ref p, .int b, .int m] ∧ PurseAt H p ∧ 2 ≤ b ∧ b ≤ 256 ∧ 0 ≤ m ∧ m ≤ 6 ∧ ∀ l xs ws H', (∀ a ∈ ws, a.ok) → (ws.length : Int) ≤ m → fineL ws ≤ 120 → H l = none → Drew p H H' → H' l = some (.lst xs) → PlansAt H' xs ws → Q (.ref l) H'
section
variable {P : Program} {w : World} {K : PySem.W.Frag} {mg : Str → Option Value} {base : Heap}
theorem ok_L_pile (T : Tx w K mg) : Prom P w K mg base CX0 5 "_law_pile" s_L_pile ["_law_bowl_here", "_law_root_here", "_law_most", "_law_room"] spPileP := by
  refine Prom.of T.d_L_pile sc_L_pile (fun vs H Q E h => ?_) (fun _ _ _ _ _ _ us hl => match us, hl with | [_, _, _, _], _ => rfl) (fun f cdv A outer s H vs Q E hr h => ?_)
  · obtain ⟨p, b, m, rfl, _⟩ := h
    rfl
  · obtain ⟨p, b, m, rfl, hp, b0, b1, m0, m1, k⟩ := h
    refine ⟨_, (pss_cons (ps_par (i := 4) (j := 5) (by rfl) sc_L_pile.nd rfl rfl (by decide) rfl rfl (pa_cons (pe_lst pa_nil) (pa_cons (pe_op op_add (pe_op op_add pe_int (pe_callTy call_int1 (by rfl) T.b_int (by decide +kernel) (pa_cons (pe_cmp (pc_gt (pv 1) pe_int)) pa_nil))) (pe_callTy call_int1 (by rfl) T.b_int (by decide +kernel) (pa_cons (pe_cmp (pc_gt (pv 1) pe_int)) pa_nil))) pa_nil)) (by rfl))
      (pss_cons (ps_for PassesOwn.never (by rfl) (pi_range1 (by rfl) T.b_range (pa_cons (pe_callP (ok_L_scoop T) (hr.mono (by decide)) (by rfl) pass0 (pa_cons (pv 0) (pa_cons (pe_op op_add (pv 2) pe_int) pa_nil))) pa_nil)) (pg_name (i := 6) sc_L_pile.nd rfl (Or.inl rfl)) (pss_cons (ps_set (i := 7) sc_L_pile.nd rfl (Or.inl rfl) (pe_callP (ok_L_plan T) (hr.mono (by decide)) (by rfl) pass0 (pa_cons (pv 0) (pa_cons (pv 3) pa_nil))))
      (pss_cons (ps_if (pt_cmpR op_in_seq (pe_ix ix_list (pv 7) pe_int (fun _ _ => rfl)) (pe_lst (pa_cons pe_str (pa_cons pe_str pa_nil))) (by rfl)) (pss_cons (ps_set (i := 5) sc_L_pile.nd rfl (Or.inl rfl) (pe_op op_sub (pv 5) pe_int))
      (pss_one (ps_if (pt_cmp (pc_lt (pv 5) pe_int)) (pss_one (ps_set (i := 7) sc_L_pile.nd rfl (Or.inl rfl) (pe_lst (pa_cons pe_str (pa_cons (pe_ix ix_list (pv 7) pe_int (fun _ _ => rfl)) pa_nil))))) pss_nil))) pss_nil)
      (pss_cons (ps_expr (pe_bm PySem.F.plainAttrs_list PySem.F.slot_list_append PySem.F.type_list_append mt_append (pv 4) (pa_cons (pv 7) pa_nil)))
      (pss_one (ps_set (i := 3) sc_L_pile.nd rfl (Or.inl rfl) (pe_op op_fdiv (pv 3) (pe_callP (ok_L_fine T) (hr.mono (by decide)) (by rfl) pass0 (pa_cons (pv 7) pa_nil)))))))))
      (pss_one (ps_ret (pv 4))))), ?_⟩
    refine ⟨Nat.zero_le _, fun lf hlf => ?_⟩
    have nlf : lf ≠ p := (Drew.refl hp).ne hlf
    have d0 := (Drew.refl hp).new (o := .lst []) hlf
    refine ⟨_, rfl, _, _, rfl, rfl, .inr ⟨_, rfl, _, _, rfl, rfl, _, rfl, _, _, rfl, rfl, .inr ⟨_, rfl, _, _, rfl, rfl, _, _, rfl, ?_⟩⟩⟩
    refine ⟨_, rfl, _, rfl, _, _, rfl, rfl, p, _, rfl, d0.at_, by omega, by omega, fun r H1 r0 r1 d1 => ?_⟩
    have hlf1 : H1 lf = some (.lst []) := d1.kp _ _ nlf upd_same
    have d1 := d0.trans d1
    refine ⟨_, rfl, by omega, by omega, for_range (lo := 0) (n := r.toNat) (fun i σ H' => Drew p H H' ∧ ∃ (xs : List V) (ws : List Wr) (rm hd : Int) (v1 v2 : Option V), H' lf = some (.lst xs) ∧ PlansAt H' xs ws ∧ (∀ a ∈ ws, a.ok) ∧ ws.length = i ∧ 1 ≤ rm ∧ rm ≤ 120 ∧ 1 ≤ fineL ws ∧ fineL ws * rm ≤ 120 ∧ σ = [some (.ref p), some (.int b), some (.int m), some (.int rm), some (.ref lf), some (.int hd), v1, v2]) ⟨d1, [], [], 120, _, none, none, hlf1, .nil, fun a ha => absurd ha (by simp), rfl, by decide, by decide, by decide, by decide, rfl⟩ ?_ ?_⟩
    · rintro i σ H2 hi ⟨d2, xs, ws, rm, hd, v1, v2, hl2, hw2, ok, wl, rm0, rm1, f0, f1, rfl⟩
      refine ⟨_, rfl, _, rfl, p, rm, rfl, d2.at_, rm0, rm1, fun q a H3 oka ua nq d3 hq => ?_⟩
      have hl3 := d3.kp _ _ nlf hl2
      have hw3 := d3.plans d2.at_ hw2
      have d3 := d2.trans d3
      refine nxt ?_
      dsimp only []
      refine seq_if (fun σ' H' => Drew p H H' ∧ H' lf = some (.lst xs) ∧ PlansAt H' xs ws ∧ ∃ (hd' : Int) (q' : Addr) (a' : Wr), a'.ok ∧ a'.use ≤ rm ∧ PlanAt H' q' a' ∧ σ' = [some (.ref p), some (.int b), some (.int m), some (.int rm), some (.ref lf), some (.int hd'), some (.int (0 + (i : Int))), some (.ref q')]) (fun N hN => ?_) ?_
      · have hq : H3 q = _ := hq
        refine ⟨_, rfl, q, _, _, .str a.kind, rfl, rfl, SqL.of hq, at_of (j := 0) rfl rfl, (by show 2 ≤ sizeLine; decide), fun l hl => ⟨l, _, rfl, .inl (SqL.of upd_same), rfl, rfl, _, rfl, ?_⟩⟩
        have v4 := up (o := .lst [V.str "told", V.str "whole"]) hl
        have d4 := d3.new (o := .lst [V.str "told", V.str "whole"]) hl
        have hl4 := v4 _ _ hl3
        have hw4 := hw3.same v4
        have hq4 := v4 _ _ hq
        generalize upd H3 l (.lst [V.str "told", V.str "whole"]) = H4 at v4 d4 hl4 hw4 hq4 ⊢
        have stay : N [some (.ref p), some (.int b), some (.int m), some (.int rm), some (.ref lf), some (.int hd), some (.int (0 + (i : Int))), some (.ref q)] H4 := hN _ _ ⟨d4, hl4, hw4, hd, q, a, oka, ua, hq4, rfl⟩
        have turn : ∀ c : Int, (V.str a.kind :: a.nums.map V.int)[1]? = some (.int c) → 0 ≤ c → c ≤ 1000 → ∀ q2, H4 q2 = none → N [some (.ref p), some (.int b), some (.int m), some (.int rm), some (.ref lf), some (.int (hd - 1)), some (.int (0 + (i : Int))), some (.ref q2)] (upd H4 q2 (.lst [.str "plus", .int c])) := fun c _ c0 c1 q2 hq2 =>
          hN _ _ ⟨d4.new hq2, up hq2 _ _ hl4, hw4.same (up hq2), hd - 1, q2, .plus c, ⟨c0, c1⟩, rm0, upd_same, rfl⟩
        have less : N [some (.ref p), some (.int b), some (.int m), some (.int rm), some (.ref lf), some (.int (hd - 1)), some (.int (0 + (i : Int))), some (.ref q)] H4 := hN _ _ ⟨d4, hl4, hw4, hd - 1, q, a, oka, ua, hq4, rfl⟩
        cases a with
        | told c => exact ifb_pos (by kernel_rfl) ⟨_, rfl, _, _, rfl, rfl, _, rfl, _, _, rfl, rfl, _, rfl, ifd (fun z => ⟨_, rfl, q, _, _, .int c, rfl, rfl, SqL.of hq4, at_of (j := 1) rfl rfl, (by show 2 ≤ sizeLine; decide), fun q2 hq2 => turn c rfl oka.1 oka.2 q2 hq2⟩) (fun z => less)⟩
        | whole c => exact ifb_pos (by kernel_rfl) ⟨_, rfl, _, _, rfl, rfl, _, rfl, _, _, rfl, rfl, _, rfl, ifd (fun z => ⟨_, rfl, q, _, _, .int c, rfl, rfl, SqL.of hq4, at_of (j := 1) rfl rfl, (by show 2 ≤ sizeLine; decide), fun q2 hq2 => turn c rfl oka.1 oka.2 q2 hq2⟩) (fun z => less)⟩
        | plus c => exact ifb_neg (by kernel_rfl) stay
        | pieces _ _ => exact ifb_neg (by kernel_rfl) stay
        | cut _ _ => exact ifb_neg (by kernel_rfl) stay
        | coded _ _ => exact ifb_neg (by kernel_rfl) stay
        | filled _ => exact ifb_neg (by kernel_rfl) stay
      · rintro σ H4 ⟨d4, hl4, hw4, hd', q', a', ok', ua', hq', rfl⟩
        have yl := hw4.len
        have wm : ws.length < 6 := by omega
        refine ⟨_, rfl, .inl ⟨rfl, _, SqL.of hl4⟩, _, rfl, lf, _, _, rfl, rfl, hl4, by rw [yl, sizeLine_eq]; omega, ?_⟩
        have hw5 : PlansAt (upd H4 lf (.lst (xs ++ [.ref q']))) (xs ++ [.ref q']) (ws ++ [a']) := (hw4.snoc hq').put hl4 hw4
        have hq5 : PlanAt (upd H4 lf (.lst (xs ++ [.ref q']))) q' a' := by
          show (upd H4 lf _) q' = _
          rw [upd_ne (plan_ne hq' hl4 hw4)]
          exact hq'
        have d5 : Drew p H (upd H4 lf (.lst (xs ++ [.ref q']))) := d4.putB hlf nlf
        have hl5 : upd H4 lf (.lst (xs ++ [.ref q'])) lf = some (.lst (xs ++ [.ref q'])) := upd_same
        generalize upd H4 lf (.lst (xs ++ [.ref q'])) = H5 at hw5 hq5 d5 hl5 ⊢
        have u0 := use_pos ok'
        have um := use_most ok'
        refine ⟨_, rfl, _, rfl, q', a', rfl, hq5, ok', fun H6 s6 => ⟨_, _, rfl, rfl, ⟨by omega, by omega⟩, d5.same s6, xs ++ [.ref q'], ws ++ [a'], rm / a'.use, hd', _, _, s6 _ _ hl5, hw5.same s6, fun x hx => ?_, ?_, ?_, ?_, ?_, ?_, rfl⟩⟩
        · rcases List.mem_append.mp hx with z | z
          · exact ok x z
          · rw [List.mem_singleton.mp z]
            exact ok'
        · rw [List.length_append, wl]
          rfl
        · exact (Int.le_ediv_iff_mul_le (by omega)).mpr (by omega)
        · exact Int.le_trans (Int.ediv_le_self _ (by omega)) rm1
        · have e : fineL (ws ++ [a']) = fineL ws * a'.use := by
            unfold fineL
            rw [List.foldl_append]
            show stepF _ a' = _
            rw [step_use]
          rw [e]
          have := Int.mul_le_mul f0 u0 (by decide) (by omega)
          omega
        · have e : fineL (ws ++ [a']) = fineL ws * a'.use := by
            unfold fineL
            rw [List.foldl_append]
            show stepF _ a' = _
            rw [step_use]
          rw [e, Int.mul_assoc]
          have e2 : a'.use * (rm / a'.use) ≤ rm := by
            have := Int.ediv_mul_le rm (show a'.use ≠ 0 by omega)
            rw [Int.mul_comm]
            exact this
          exact Int.le_trans (Int.mul_le_mul_of_nonneg_left e2 (by omega)) f1
    · rintro σ H2 ⟨d2, xs, ws, rm, hd, v1, v2, hl2, hw2, ok, wl, rm0, rm1, f0, f1, rfl⟩
      refine ⟨_, rfl, k lf xs ws H2 ok (by omega) ?_ hlf d2 hl2 hw2⟩
      have := Int.mul_le_mul_of_nonneg_left rm0 (show 0 ≤ fineL ws by omega)
      omega
end
theorem cut_to {xs : List V} {i : Nat} (h : i ≤ xs.length) : cutV xs none (some (i : Int)) = xs.take i := by
  unfold cutV
  rw [HT.sIx_none, HT.sIx_nat]
  simp [Nat.min_eq_left h]
theorem cut_from {xs : List V} {i : Nat} (h : i ≤ xs.length) : cutV xs (some (i : Int)) none = xs.drop i := by
  unfold cutV
  rw [HT.sIx_none, HT.sIx_nat, Nat.min_eq_left h]
  exact List.take_of_length_le (by rw [List.length_drop]; exact Nat.le_refl _)
/-! ### the integer that a word tells -/
def spAmount : Sp := fun vs H Q _ => ∃ s : Str, vs = [.str s] ∧ s.length ≤ 2000 ∧ Q (.int (numV s)) H
theorem str_dec {a b : Str} : decide (V.str a = V.str b) = decide (a = b) := by
  by_cases h : a = b
  · rw [decide_eq_true h, decide_eq_true (congrArg V.str h)]
  · rw [decide_eq_false h, decide_eq_false fun z => h (by cases z; rfl)]
theorem str_ne_nil {s : Str} (h : s ≠ "") : ∃ c cs, s.cps.toList = c :: cs := by
  match e : s.cps.toList with
  | c :: cs => exact ⟨c, cs, rfl⟩
  | [] =>
    refine absurd ?_ h
    have : s.cps = #[] := by
      rw [← Array.toList_inj]
      exact e
    cases s
    cases this
    rfl
theorem ite_same2 {b : Bool} {A R : Prop} (h : b = true → R → A) (r : R) : if b = true then A else R := by
  cases b with
  | false => exact r
  | true => exact h rfl r
section
variable {P : Program} {w : World} {K : PySem.W.Frag} {mg : Str → Option Value} {base : Heap}
theorem ok_amount_of (T : Tx w K mg) : Prom P w K mg base CX0 2 "amount_of" s_amount_of ["word"] spAmount := by
  refine Prom.of T.d_amount_of sc_amount_of (fun vs H Q E h => ?_) (fun _ _ _ _ _ _ us hl => match us, hl with | [_], _ => rfl) (fun f cdv A outer s H vs Q E hr h => ?_)
  · obtain ⟨z, rfl, _⟩ := h
    rfl
  · obtain ⟨z, rfl, hz, k⟩ := h
    refine ⟨_, (pss_cons (ps_if (PW.pt (pw_or (pt_cmpR op_eq (pv 0) pe_str (nomark _)) (pw_or1 (PW.pt (pw_and (pt_cmpR op_eq (pe_ix ix_str (pv 0) pe_int (fun _ _ => rfl)) pe_str (nomark _)) (pw_and1 (pt_cmpR op_ne (pv 0) pe_str (nomark _)))))))) (pss_one (ps_ret (pe_un un_neg pe_int))) pss_nil)
      (pss_cons (ps_set (i := 1) sc_amount_of.nd rfl (Or.inl rfl) pe_int)
      (pss_cons (ps_for PassesOwn.never (by rfl) (pi_str (pv 0)) (pg_name (i := 2) sc_amount_of.nd rfl (Or.inl rfl)) (pss_cons (ps_if (pt_cmpR op_notIn_sign (pv 2) (pe_gstr T.c_TENS) (by rfl)) (pss_one (ps_ret (pe_un un_neg pe_int))) pss_nil)
      (pss_one (ps_set (i := 1) sc_amount_of.nd rfl (Or.inl rfl) (pe_op op_add (pe_op op_mul pe_int (pv 1)) (pe_sindex (pe_gstr T.c_TENS) (pv 2)))))))
      (pss_one (ps_ret (pv 1)))))), ?_⟩
    have hz2 : z.length ≤ sizeLine := Nat.le_trans hz (by decide)
    by_cases e0 : z = ""
    · subst e0
      refine ⟨_, rfl, rfl, _, rfl, iteT ?_⟩
      exact iteT ⟨_, rfl, k⟩
    obtain ⟨c, cs, ec⟩ := str_ne_nil e0
    refine ⟨_, rfl, rfl, _, rfl, ifd (fun x => absurd (by cases x; rfl) e0) (fun _ => ?_)⟩
    refine ⟨_, rfl, _, _, c, rfl, rfl, hz2, atI_nat (j := 0) (by rw [ec]; rfl), rfl, _, rfl, ?_⟩
    by_cases e1 : z.cps.toList[0]? = some 48 ∧ z ≠ "0"
    · have ec0 : c = 48 := by
        have := e1.1
        rw [ec] at this
        exact Option.some.inj this
      refine ifd (fun _ => ?_) (fun x => absurd (by rw [ec0]; rfl) x)
      refine ⟨_, rfl, rfl, _, rfl, ifn (fun _ => ?_) (fun x => absurd (by cases x; rfl) e1.2)⟩
      refine ⟨_, rfl, ?_⟩
      rw [numV_zero e0 e1.1 e1.2] at k
      exact k
    refine ite_same2 (fun x r => ⟨_, rfl, rfl, _, rfl, ?_⟩) ?_
    · have ez : z = "0" := by
        refine Decidable.byContradiction fun y => e1 ⟨?_, y⟩
        rw [ec]
        have x := of_decide_eq_true x
        cases x
        rfl
      rw [show (!decide (V.str z = V.str (Str.ofString "0"))) = false by rw [ez]; rfl]
      exact r
    refine iteF ?_
    refine ⟨_, rfl, ?_⟩
    refine ⟨_, rfl, for_str (z := z) (fun i σ H' => H' = H ∧ (∀ c ∈ z.cps.toList.take i, dig c = true) ∧ ∃ e, σ = [some (.str z), some (.int (digV (z.cps.toList.take i))), e]) ⟨rfl, fun c hc => by simp at hc, none, rfl⟩ ?_ ?_⟩
    · rintro i d σ H' hd ⟨rfl, hall, e, rfl⟩
      refine ⟨_, rfl, d, _, rfl, rfl, _, rfl, ?_⟩
      rw [show decide (d ∈ (Str.ofString "0123456789").cps.toList) = dig d from tens_mem d]
      cases hg : dig d with
      | false =>
        refine iteT ⟨_, rfl, ?_⟩
        rw [numV_not (List.mem_of_getElem? hd) hg] at k
        exact k
      | true =>
        have hd2 := of_decide_eq_true hg
        have ed : d = 48 + (⟨d - 48, by omega⟩ : Fin 10).val := by
          show d = 48 + (d - 48)
          omega
        have et : z.cps.toList.take (i + 1) = z.cps.toList.take i ++ [d] := by
          rw [List.take_succ, hd]
          rfl
        refine iteF ?_
        refine ⟨_, rfl, _, _, rfl, rfl, .inl ⟨by decide, by decide⟩, ⟨_, rfl⟩, _, rfl, _, _, _, [], rfl, rfl, (by rw [ed]; exact tens_at _), _, _, rfl, rfl, ?_⟩
        refine ⟨rfl, fun c hc => ?_, some (.str ⟨#[d]⟩), ?_⟩
        · rw [et, List.mem_append, List.mem_singleton] at hc
          rcases hc with hc | rfl
          · exact hall c hc
          · exact hg
        · rw [et, digV_snoc]
          have e2 : ((d - 48 : Nat) : Int) = (d : Int) - 48 := by omega
          rw [← e2]
          rfl
    · rintro σ H' ⟨rfl, hall, e, rfl⟩
      have e2 : z.cps.toList.take z.length = z.cps.toList := List.take_of_length_le (by simp [Str.length])
      rw [e2] at hall ⊢
      rw [numV_all e0 e1 hall] at k
      exact ⟨_, rfl, k⟩
end
/-! ### the wrap that a text tells -/
/-- the wrap of a kind with numbers, if there is one -/
def mkW (kd : Str) (ns : List Int) : Option Wr := match ns with
  | [c] => if kd = "plus" then (if 0 ≤ c ∧ c ≤ 1000 then some (.plus c) else none)
      else if kd = "told" then (if 0 ≤ c ∧ c ≤ 1000 then some (.told c) else none)
      else if kd = "whole" then (if 0 ≤ c ∧ c ≤ 1000 then some (.whole c) else none)
      else if kd = "filled" then (if 1 ≤ c ∧ c ≤ 60 then some (.filled c) else none)
      else none
  | [m, c] => if kd = "pieces" then (if 1 ≤ m ∧ m ≤ 60 ∧ 0 ≤ c ∧ c ≤ 60 then some (.pieces m c) else none)
      else if kd = "cut" then (if 1 ≤ m ∧ m ≤ 60 ∧ 0 ≤ c ∧ c ≤ 60 then some (.cut m c) else none)
      else if kd = "coded" then (if 1 ≤ m ∧ m ≤ 60 ∧ m ≤ c ∧ c ≤ 120 then some (.coded m c) else none)
      else none
  | _ => none
theorem mkW_spec {kd : Str} {ns : List Int} {a : Wr} (h : mkW kd ns = some a) : a.kind = kd ∧ a.nums = ns ∧ a.ok := by
  unfold mkW at h
  split at h
  · repeat' split at h
    all_goals first | (cases h; done) | skip
    all_goals
      rename_i hk hc
      cases h
      exact ⟨hk.symm, rfl, hc⟩
  · repeat' split at h
    all_goals first | (cases h; done) | skip
    all_goals
      rename_i hk hc
      cases h
      exact ⟨hk.symm, rfl, hc⟩
  · cases h
theorem mkW_ok {a : Wr} (h : a.ok) : mkW a.kind a.nums = some a := by
  cases a with
  | plus c => exact if_pos h
  | told c => exact if_pos h
  | whole c => exact if_pos h
  | filled c => exact if_pos h
  | pieces m c => exact if_pos h
  | cut m c => exact if_pos h
  | coded m c => exact if_pos h
theorem kinds_rep {kd : Str} (h : kd ∈ kinds7) : ∃ a : Wr, a.kind = kd := by
  have h : kd ∈ [("plus" : Str), "told", "whole", "pieces", "cut", "coded", "filled"] := h
  simp only [List.mem_cons, List.not_mem_nil, or_false] at h
  rcases h with rfl | rfl | rfl | rfl | rfl | rfl | rfl
  · exact ⟨.plus 0, rfl⟩
  · exact ⟨.told 0, rfl⟩
  · exact ⟨.whole 0, rfl⟩
  · exact ⟨.pieces 1 0, rfl⟩
  · exact ⟨.cut 1 0, rfl⟩
  · exact ⟨.coded 1 1, rfl⟩
  · exact ⟨.filled 1, rfl⟩
theorem kind_mem (a : Wr) : a.kind ∈ kinds7 := by
  cases a with
  | plus _ => exact (show ("plus" : Str) ∈ kinds7 by decide)
  | told _ => exact (show ("told" : Str) ∈ kinds7 by decide)
  | whole _ => exact (show ("whole" : Str) ∈ kinds7 by decide)
  | pieces _ _ => exact (show ("pieces" : Str) ∈ kinds7 by decide)
  | cut _ _ => exact (show ("cut" : Str) ∈ kinds7 by decide)
  | coded _ _ => exact (show ("coded" : Str) ∈ kinds7 by decide)
  | filled _ => exact (show ("filled" : Str) ∈ kinds7 by decide)
def rlen (k : Str) : Nat := if k = "pieces" ∨ k = "cut" ∨ k = "coded" then 2 else 1
theorem rng_rlen (a : Wr) : a.rng.length = rlen a.kind := by
  cases a with
  | plus _ => exact (show 1 = rlen "plus" by decide)
  | told _ => exact (show 1 = rlen "told" by decide)
  | whole _ => exact (show 1 = rlen "whole" by decide)
  | pieces _ _ => exact (show 2 = rlen "pieces" by decide)
  | cut _ _ => exact (show 2 = rlen "cut" by decide)
  | coded _ _ => exact (show 2 = rlen "coded" by decide)
  | filled _ => exact (show 1 = rlen "filled" by decide)
theorem mkW_out {kd : Str} (h : kd ∉ kinds7) (ns : List Int) : mkW kd ns = none := by
  cases e : mkW kd ns with
  | none => rfl
  | some a =>
    refine absurd ?_ h
    rw [← (mkW_spec e).1]
    exact kind_mem a
theorem mkW_len {a0 : Wr} {ns : List Int} (h : ns.length ≠ a0.rng.length) : mkW a0.kind ns = none := by
  cases e : mkW a0.kind ns with
  | none => rfl
  | some a =>
    refine absurd ?_ h
    obtain ⟨e1, e2, _⟩ := mkW_spec e
    rw [← e2, nums_len, rng_rlen, rng_rlen, e1]
theorem len_two {ns : List Int} (h : ns.length = 2) : ∃ m c, ns = [m, c] := by
  match ns, h with
  | [m, c], _ => exact ⟨m, c, rfl⟩
theorem fault_mk {a0 : Wr} {ns : List Int} (h : ns.length = a0.rng.length) : (faultV a0 ns = .non ∧ ∃ a, mkW a0.kind ns = some a) ∨ (faultV a0 ns ≠ .non ∧ mkW a0.kind ns = none) := by
  cases a0 with
  | plus c0 =>
    obtain ⟨c, rfl⟩ : ∃ c, ns = [c] := List.length_eq_one_iff.mp h
    by_cases k : 0 ≤ c ∧ c ≤ 1000
    · exact .inl ⟨fault_ok (a := .plus c) k, _, mkW_ok (a := .plus c) k⟩
    · refine .inr ⟨?_, if_neg k⟩
      unfold faultV
      rw [show faultL (Wr.plus c0).rng [c] 0 = some 0 from if_neg k]
      exact fun z => by cases z
  | told c0 =>
    obtain ⟨c, rfl⟩ : ∃ c, ns = [c] := List.length_eq_one_iff.mp h
    by_cases k : 0 ≤ c ∧ c ≤ 1000
    · exact .inl ⟨fault_ok (a := .told c) k, _, mkW_ok (a := .told c) k⟩
    · refine .inr ⟨?_, if_neg k⟩
      unfold faultV
      rw [show faultL (Wr.told c0).rng [c] 0 = some 0 from if_neg k]
      exact fun z => by cases z
  | whole c0 =>
    obtain ⟨c, rfl⟩ : ∃ c, ns = [c] := List.length_eq_one_iff.mp h
    by_cases k : 0 ≤ c ∧ c ≤ 1000
    · exact .inl ⟨fault_ok (a := .whole c) k, _, mkW_ok (a := .whole c) k⟩
    · refine .inr ⟨?_, if_neg k⟩
      unfold faultV
      rw [show faultL (Wr.whole c0).rng [c] 0 = some 0 from if_neg k]
      exact fun z => by cases z
  | filled c0 =>
    obtain ⟨c, rfl⟩ : ∃ c, ns = [c] := List.length_eq_one_iff.mp h
    by_cases k : 1 ≤ c ∧ c ≤ 60
    · exact .inl ⟨fault_ok (a := .filled c) k, _, mkW_ok (a := .filled c) k⟩
    · refine .inr ⟨?_, if_neg k⟩
      unfold faultV
      rw [show faultL (Wr.filled c0).rng [c] 0 = some 0 from if_neg k]
      exact fun z => by cases z
  | pieces m0 c0 =>
    obtain ⟨m, c, rfl⟩ : ∃ m c, ns = [m, c] := len_two h
    by_cases k : 1 ≤ m ∧ m ≤ 60 ∧ 0 ≤ c ∧ c ≤ 60
    · exact .inl ⟨fault_ok (a := .pieces m c) k, _, mkW_ok (a := .pieces m c) k⟩
    · refine .inr ⟨?_, if_neg k⟩
      unfold faultV
      rw [show faultL (Wr.pieces m0 c0).rng [m, c] 0 = if 1 ≤ m ∧ m ≤ 60 then (if 0 ≤ c ∧ c ≤ 60 then none else some 1) else some 0 from rfl]
      by_cases km : 1 ≤ m ∧ m ≤ 60
      · rw [if_pos km]
        by_cases kc : 0 ≤ c ∧ c ≤ 60
        · exact absurd ⟨km.1, km.2, kc⟩ k
        · rw [if_neg kc]
          exact fun z => by cases z
      · rw [if_neg km]
        exact fun z => by cases z
  | cut m0 c0 =>
    obtain ⟨m, c, rfl⟩ : ∃ m c, ns = [m, c] := len_two h
    by_cases k : 1 ≤ m ∧ m ≤ 60 ∧ 0 ≤ c ∧ c ≤ 60
    · exact .inl ⟨fault_ok (a := .cut m c) k, _, mkW_ok (a := .cut m c) k⟩
    · refine .inr ⟨?_, if_neg k⟩
      unfold faultV
      rw [show faultL (Wr.cut m0 c0).rng [m, c] 0 = if 1 ≤ m ∧ m ≤ 60 then (if 0 ≤ c ∧ c ≤ 60 then none else some 1) else some 0 from rfl]
      by_cases km : 1 ≤ m ∧ m ≤ 60
      · rw [if_pos km]
        by_cases kc : 0 ≤ c ∧ c ≤ 60
        · exact absurd ⟨km.1, km.2, kc⟩ k
        · rw [if_neg kc]
          exact fun z => by cases z
      · rw [if_neg km]
        exact fun z => by cases z
  | coded m0 c0 =>
    obtain ⟨m, c, rfl⟩ : ∃ m c, ns = [m, c] := len_two h
    by_cases k : 1 ≤ m ∧ m ≤ 60 ∧ m ≤ c ∧ c ≤ 120
    · exact .inl ⟨fault_ok (a := .coded m c) k, _, mkW_ok (a := .coded m c) k⟩
    · refine .inr ⟨?_, if_neg k⟩
      unfold faultV
      rw [show faultL (Wr.coded m0 c0).rng [m, c] 0 = if 1 ≤ m ∧ m ≤ 60 then (if 1 ≤ c ∧ c ≤ 120 then none else some 1) else some 0 from rfl]
      by_cases km : 1 ≤ m ∧ m ≤ 60
      · rw [if_pos km]
        by_cases kc : 1 ≤ c ∧ c ≤ 120
        · rw [if_pos kc]
          show (if (Wr.coded m0 c0).kind = "coded" ∧ c < m then V.int 1 else .non) ≠ .non
          rw [if_pos ⟨rfl, by omega⟩]
          exact fun z => by cases z
        · rw [if_neg kc]
          exact fun z => by cases z
      · rw [if_neg km]
        exact fun z => by cases z
def rdW (t : Str) : Option Wr := match Txt.split t " " with
  | kd :: ws => mkW kd (ws.map numV)
  | [] => none
def spWrapIn (K : PySem.W.Frag) : Sp := fun vs H Q _ => ∃ t : Str, vs = [.str t] ∧ t.length ≤ 1000 ∧ (∀ H', Same H H' → rdW t = none → Q .non H') ∧ ∀ a q H', rdW t = some a → H q = none → Same H H' → WrapAt K H' q a → Q (.ref q) H'
section
variable {P : Program} {w : World} {K : PySem.W.Frag} {mg : Str → Option Value} {base : Heap}
theorem ok_wrap_in (T : Tx w K mg) : Prom P w K mg base CX0 6 "wrap_in" s_wrap_in ["text"] (spWrapIn K) := by
  refine Prom.of T.d_wrap_in sc_wrap_in (fun vs H Q E h => ?_) (fun _ _ _ _ _ _ us hl => match us, hl with | [_], _ => rfl) (fun f cdv A outer s H vs Q E hr h => ?_)
  · obtain ⟨z, rfl, _⟩ := h
    rfl
  · obtain ⟨z, rfl, hz, k0, k⟩ := h
    obtain ⟨es, en, kd⟩ := T.kd
    refine ⟨_, (pss_cons (ps_set (i := 1) sc_wrap_in.nd rfl (Or.inl rfl) (pe_split (pv 0) pe_str))
      (pss_cons (ps_par (i := 2) (j := 3) (by rfl) sc_wrap_in.nd rfl rfl (by decide) rfl rfl (pa_cons (pe_ix ix_list (pv 1) pe_int (fun _ _ => rfl)) (pa_cons (pe_lc (own := [("word", 4)]) (g := (gName 4)) (tt := tYes) (by rfl) sc_wrap_in.nd (pi_list (pe_slice sl_list (pv 1) (po_some pe_int) po_none)) (blkOk_by (own := [("word", 4)]) (N := ["text", "words", "kind", "numbers", "word"]) (sc := defScope s_wrap_in) (by decide +kernel)) (fun _ _ _ _ _ => (pg_name (i := 4) sc_wrap_in.nd rfl (Or.inl rfl))) (fun _ _ _ _ _ => pts_nil) (fun _ _ _ _ _ => (pe_callP (ok_amount_of T) (hr.mono (by decide)) (by rfl) pass0 (pa_cons (pv 4) pa_nil)))) pa_nil)) (by rfl))
      (pss_cons (ps_if (PW.pt (pw_or (pt_cmpR (op_notIn_kd kd) (pv 2) (pe_glob (v := .ref _) (by rfl) T.k_RANGES rfl) (by rfl)) (pw_or (pt_cmp (pc_neI (pe_callB call_len_seq (by rfl) T.b_len (by decide +kernel) (pa_cons (pv 3) pa_nil)) (pe_callB call_len_seq (by rfl) T.b_len (by decide +kernel) (pa_cons (pe_ix ix_kdict (pe_glob (v := .ref _) (by rfl) T.k_RANGES rfl) (pv 2) (fun _ _ => rfl)) pa_nil)))) (pw_or1 (pt_cmpR op_notN (pe_callP (ok_fault_in T) (hr.mono (by decide)) (by rfl) pass0 (pa_cons (pv 2) (pa_cons (pv 3) pa_nil))) pe_non (nomark _)))))) (pss_one (ps_ret pe_non)) pss_nil)
      (pss_one (ps_ret (pe_newS (ok_Wrap T) (hr.mono (by decide)) (by rfl) pass0 (pa_cons (pv 2) (StX.pa_star (pv 3) pa_nil)))))))), ?_⟩
    obtain ⟨kw, ws, es1⟩ : ∃ kw ws, Txt.split z " " = kw :: ws := by
      match e : Txt.split z " " with
      | k :: ws => exact ⟨k, ws, rfl⟩
      | [] =>
        have := split_pos z " "
        rw [e] at this
        simp at this
    have short : ∀ y ∈ ws, y.length ≤ 1000 := fun y hy => Nat.le_trans (part_short (x := z) (y := " ") (by rw [es1]; exact .tail _ hy)) hz
    have er : rdW z = mkW kw (ws.map numV) := by
      unfold rdW
      rw [es1]
    have hws : ws.length ≤ 1002 := by
      have := split_le z " "
      rw [es1, List.length_cons] at this
      omega
    refine ⟨_, rfl, ⟨_, rfl⟩, _, _, rfl, rfl, by decide +kernel, Nat.le_trans (Nat.add_le_add_right hz 2) (by decide), fun l hl => ?_⟩
    rw [es1]
    refine ⟨_, rfl, l, _, _, _, rfl, rfl, SqL.of upd_same, at_of (j := 0) rfl rfl, ?_⟩
    refine ⟨_, rfl, _, rfl, l, _, rfl, SqL.of upd_same, fun q hq => ?_⟩
    have ecut : cutV ((kw :: ws).map V.str) (some 1) none = ws.map V.str := by
      have e : HT.sIx ((kw :: ws).map V.str).length 0 (some 1) = min 1 ((kw :: ws).map V.str).length := HT.sIx_nat _ 0 1
      unfold cutV
      rw [e, HT.sIx_none, List.length_map, List.length_cons, Nat.min_eq_left (by omega)]
      show (ws.map V.str).take (ws.length + 1 - 1) = ws.map V.str
      rw [Nat.add_sub_cancel, List.take_of_length_le (by rw [List.length_map]; omega)]
    rw [ecut]
    have s1 : Same H (upd H l (.lst ((kw :: ws).map V.str))) := up hl
    have s2 := up (o := .lst (ws.map V.str)) hq
    refine ⟨q, rfl, ⟨_, SqL.of upd_same⟩, fun D hD => ?_⟩
    have sD := up (o := .lst []) hD
    obtain ⟨H0, e0⟩ : ∃ H0, H0 = upd (upd H l (.lst ((kw :: ws).map V.str))) q (.lst (ws.map V.str)) := ⟨_, rfl⟩
    rw [← e0] at hD sD ⊢
    have s0 : Same H H0 := by
      rw [e0]
      exact fun a o e => s2 _ _ (s1 _ _ e)
    have gq : H0 q = some (.lst (ws.map V.str)) := by
      rw [e0]
      exact upd_same
    refine lc_list (K := K) (a := q) (xs := ws.map V.str) (Pv := fun j H' => Same H0 H' ∧ H' D = some (.lst (((ws.take j).map numV).map V.int))) ⟨sD, upd_same⟩ (fun j H' _ h => SqL.of (h.1 _ _ gq)) ?_ ?_
    · rintro j x H1 hj ⟨hs, hd⟩
      obtain ⟨y, hy, rfl⟩ : ∃ y, ws[j]? = some y ∧ x = V.str y := by
        rw [List.getElem?_map] at hj
        cases e : ws[j]? with
        | none =>
          rw [e] at hj
          cases hj
        | some n =>
          rw [e] at hj
          exact ⟨n, rfl, (Option.some.inj hj).symm⟩
      have hjl : j < ws.length := by
        rcases List.getElem?_eq_some_iff.mp hy with ⟨z, _⟩
        exact z
      refine ⟨rfl, _, rfl, y, rfl, Nat.le_trans (short y (List.mem_of_getElem? hy)) (by decide), _, hd, ?_, fun y o e => ?_, ?_⟩
      · rw [List.length_map, List.length_map, List.length_take, sizeLine_eq]
        omega
      · rw [upd_ne (ne_of_none e hD)]
        exact hs _ _ e
      · rw [upd_same, List.take_succ, hy, List.map_append, List.map_append]
        rfl
    rintro H1 ⟨hs, hd⟩
    rw [List.length_map, List.take_length] at hd
    have sH : Same H H1 := fun a o e => hs _ _ (s0 _ _ e)
    clear hD sD e0 s2 ecut hq hl s1
    obtain ⟨ns, ens⟩ : ∃ ns, ns = ws.map numV := ⟨_, rfl⟩
    rw [← ens] at hd er
    refine ⟨_, _, rfl, ?_⟩
    refine st_eq [some (.str z), some (.ref l), some (.str kw), some (.ref D), none] rfl ?_
    by_cases hk : kw ∈ kinds7
    · obtain ⟨a0, rfl⟩ := kinds_rep hk
      obtain ⟨b, xs, hb, hq', hp⟩ := T.rg a0
      refine ⟨_, rfl, _, some (.ref b), rfl, rfl, hb, _, rfl, iteF ?_⟩
      refine ⟨_, rfl, D, _, rfl, .inl (SqL.of hd), _, rfl, _, _, .ref b, rfl, rfl, ⟨es, en, _, kd.at_, kd.lit, hb, rfl⟩, b, xs, rfl, .inr (hq' _), _, _, rfl, rfl, ?_⟩
      have nil : rdW z = none → Q .non H1 := k0 _ sH
      refine ⟨_, rfl, ifn (fun c => ?_) (fun c => ?_)⟩
      · have c : ¬ ((ns.map V.int).length : Int) = (xs.length : Int) := c
        refine iteT (nil ?_)
        rw [er]
        refine mkW_len fun e => c ?_
        rw [List.length_map, hp.len, e]
      · have c : ((ns.map V.int).length : Int) = (xs.length : Int) := c
        have el : ns.length = a0.rng.length := by
          rw [List.length_map, hp.len] at c
          omega
        refine ⟨_, rfl, _, rfl, a0, ns, D, rfl, .inl (SqL.of hd), el, fun H2 s2 => ?_⟩
        have sH2 : Same H H2 := fun a o e => s2 _ _ (sH _ _ e)
        refine ⟨rfl, _, rfl, ?_⟩
        rcases fault_mk el with ⟨e, a, ea⟩ | ⟨e, en⟩
        · refine ifn (fun x => absurd e x) (fun _ => ?_)
          obtain ⟨e1, e2, ok⟩ := mkW_spec ea
          refine ⟨_, rfl, _, rfl, D, _, rfl, .inr (SqL.of (s2 _ _ hd)), a, ?_, ok, fun q3 H3 n3 s3 w3 => ?_⟩
          · show V.str a0.kind :: (ns.map V.int ++ []) = _
            rw [e1, e2, List.append_nil]
          · refine k a q3 H3 (by rw [er]; exact ea) ?_ (fun x o e => s3 _ _ (sH2 _ _ e)) w3
            cases e3 : H q3 with
            | none => rfl
            | some o =>
              rw [sH2 _ _ e3] at n3
              cases n3
        · refine ifn (fun _ => ?_) (fun x => absurd x e)
          exact k0 _ sH2 (by rw [er]; exact en)
    · refine ⟨_, rfl, _, none, rfl, rfl, T.rn kw hk, _, rfl, iteT ?_⟩
      refine iteT (k0 _ sH ?_)
      rw [er]
      exact mkW_out hk _
end
/-! ### a wrap is not None -/
def NW (K : PySem.W.Frag) : Addr → Hp → Prop := fun a H => ∃ x, WrapAt K H a x
theorem NW.mon {K : PySem.W.Frag} : ∀ a H H', Ext H H' → NW K a H → NW K a H' := fun a H H' e ⟨x, h⟩ => ⟨x, h.same e⟩
section
variable {P : Program} {w : World} {K : PySem.W.Frag} {mg : Str → Option Value} {base : Heap}
theorem ok_Wrap_eqN (T : Tx w K mg) : PromM P w K mg base CX0 1 "Wrap" "__eq__" ["self", "other"] (spEqN (NW K)) := by
  refine PromM.of T.cl_Wrap T.me_Wrap___eq__ T.dm_Wrap___eq__ sc_Wrap___eq__ (fun vs H Q E h => ?_) (fun _ _ _ _ _ _ us hl => match us, hl with | [_, _], _ => rfl) (fun f cdv A outer s H vs Q E hr h => ?_)
  · obtain ⟨a, rfl, _⟩ := h
    rfl
  · obtain ⟨a, rfl, ⟨x, dx, p, h1, h2⟩, k⟩ := h
    refine ⟨_, (pss_one (ps_ret (pe_and (pe_callB call_isi (by rfl) T.b_isinstance (by decide +kernel) (pa_cons (pv 1) (pa_cons (pe_glob (v := .ref _) (by rfl) T.k_Wrap rfl) pa_nil))) (pe_and (pe_cmpR op_eq (pe_fld (pv 0) rfl) (pe_fld (pv 1) rfl) (nomark _)) (pe_one (pe_cmpR (op_eqD hr.units) (pe_fld (pv 0) rfl) (pe_fld (pv 1) rfl) (nomark _))))))), ?_⟩
    refine ⟨_, rfl, _, _, _, _, false, rfl, .own _, .base .non, T.kt.bt "NoneType" (by decide) "Wrap" (by decide), false, rfl, iteF ?_⟩
    exact k _ Ext.rfl'
end
/-! ### the stack that a text tells -/
def rdS (t : Str) : Option (Int × List Wr) := match Txt.split t "\n" with
  | [] => none
  | r0 :: rows =>
    let pt := Txt.partition r0 " "
    if pt.1 = "base" ∧ 2 ≤ numV pt.2.2 ∧ numV pt.2.2 ≤ 256 ∧ rows.length ≤ 6 then
      match rows.mapM rdW with
      | some ws => if fineL ws ≤ 120 then some (numV pt.2.2, ws) else none
      | none => none
    else none
/-- what is read of each row -/
inductive RdsAt (K : PySem.W.Frag) (H : Hp) : List V → List (Option Wr) → Prop where
  | nil : RdsAt K H [] []
  | non {xs : List V} {ws : List (Option Wr)} (r : RdsAt K H xs ws) : RdsAt K H (.non :: xs) (none :: ws)
  | ref {a : Addr} {x : Wr} {xs : List V} {ws : List (Option Wr)} (h : WrapAt K H a x) (r : RdsAt K H xs ws) : RdsAt K H (.ref a :: xs) (some x :: ws)
theorem RdsAt.len {K : PySem.W.Frag} {H : Hp} {xs : List V} {ws : List (Option Wr)} (h : RdsAt K H xs ws) : xs.length = ws.length := by
  induction h with
  | nil => rfl
  | non _ ih => exact congrArg (· + 1) ih
  | ref _ _ ih => exact congrArg (· + 1) ih
theorem RdsAt.same {K : PySem.W.Frag} {H H' : Hp} {xs : List V} {ws : List (Option Wr)} (h : RdsAt K H xs ws) (s : Same H H') : RdsAt K H' xs ws := by
  induction h with
  | nil => exact .nil
  | non _ ih => exact .non ih
  | ref h _ ih => exact .ref (h.same s) ih
theorem RdsAt.snocN {K : PySem.W.Frag} {H : Hp} {xs : List V} {ws : List (Option Wr)} (h : RdsAt K H xs ws) : RdsAt K H (xs ++ [.non]) (ws ++ [none]) := by
  induction h with
  | nil => exact .non .nil
  | non _ ih => exact .non ih
  | ref h _ ih => exact .ref h ih
theorem RdsAt.snocR {K : PySem.W.Frag} {H : Hp} {xs : List V} {ws : List (Option Wr)} {a : Addr} {x : Wr} (h : RdsAt K H xs ws) (hx : WrapAt K H a x) : RdsAt K H (xs ++ [.ref a]) (ws ++ [some x]) := by
  induction h with
  | nil => exact .ref hx .nil
  | non _ ih => exact .non ih
  | ref h _ ih => exact .ref h ih
theorem RdsAt.upd {K : PySem.W.Frag} {H : Hp} {D : Addr} {zs : List V} {o : HO} (g : H D = some (.lst zs)) {xs : List V} {ws : List (Option Wr)} (h : RdsAt K H xs ws) : RdsAt K (L2.upd H D o) xs ws := by
  induction h with
  | nil => exact .nil
  | non _ ih => exact .non ih
  | ref h _ ih =>
    obtain ⟨dx, p, h1, h2⟩ := h
    refine .ref ⟨dx, p, ?_, ?_⟩ ih
    · rw [upd_ne (fun e => by rw [e, g] at h1; cases h1)]
      exact h1
    · rw [upd_ne (fun e => by rw [e, g] at h2; cases h2)]
      exact h2
theorem RdsAt.each {K : PySem.W.Frag} {H : Hp} {xs : List V} {ws : List (Option Wr)} (h : RdsAt K H xs ws) : ∀ z ∈ xs, z = .non ∨ ∃ a dx fs, z = .ref a ∧ H a = some (.ins (He.ga K "Wrap") dx fs) ∧ NW K a H := by
  induction h with
  | nil => exact fun z h => by cases h
  | non _ ih =>
    intro z hz
    rcases List.mem_cons.mp hz with rfl | hz
    · exact .inl rfl
    · exact ih z hz
  | ref h _ ih =>
    intro z hz
    rcases List.mem_cons.mp hz with rfl | hz
    · have h0 := h
      obtain ⟨dx, p, h1, h2⟩ := h
      exact .inr ⟨_, dx, _, rfl, h1, _, h0⟩
    · exact ih z hz
theorem RdsAt.all {K : PySem.W.Frag} {H : Hp} : ∀ {xs : List V} {ts : List Str}, RdsAt K H xs (ts.map rdW) → xs.any isNon = false → ∃ ws, ts.mapM rdW = some ws ∧ WrapsAt K H xs ws
  | [], [], _, _ => ⟨[], rfl, .nil⟩
  | _ :: _, [], h, _ => by cases h
  | [], _ :: _, h, _ => by cases h
  | x :: xs, t :: ts, h, e => by
    rw [List.any_cons, Bool.or_eq_false_iff] at e
    rw [List.map_cons] at h
    generalize ew : rdW t = o at h
    cases h with
    | non r => cases e.1
    | ref hx r =>
      obtain ⟨ws, e1, e2⟩ := RdsAt.all r e.2
      refine ⟨_ :: ws, ?_, .cons hx e2⟩
      rw [List.mapM_cons, ew, e1]
      rfl
theorem RdsAt.some_none {K : PySem.W.Frag} {H : Hp} : ∀ {xs : List V} {ts : List Str}, RdsAt K H xs (ts.map rdW) → xs.any isNon = true → ts.mapM rdW = none
  | [], _, _, e => by cases e
  | _ :: _, [], h, _ => by cases h
  | x :: xs, t :: ts, h, e => by
    rw [List.any_cons, Bool.or_eq_true] at e
    rw [List.map_cons] at h
    generalize ew : rdW t = o at h
    cases h with
    | non r =>
      rw [List.mapM_cons, ew]
      rfl
    | ref hx r =>
      rcases e with e | e
      · cases e
      rw [List.mapM_cons, ew, RdsAt.some_none r e]
      rfl
theorem rd_ok {t : Str} {a : Wr} (h : rdW t = some a) : a.ok := by
  unfold rdW at h
  split at h
  · exact (mkW_spec h).2.2
  · cases h
theorem rds_ok : ∀ {ts : List Str} {ws : List Wr}, ts.mapM rdW = some ws → (∀ a ∈ ws, a.ok) ∧ ws.length = ts.length
  | [], ws, h => by
    cases h
    exact ⟨fun _ h => (by cases h), rfl⟩
  | t :: ts, ws, h => by
    rw [List.mapM_cons] at h
    cases e : rdW t with
    | none =>
      rw [e] at h
      cases h
    | some a =>
      cases e2 : ts.mapM rdW with
      | none =>
        rw [e, e2] at h
        cases h
      | some us =>
        rw [e, e2] at h
        cases h
        obtain ⟨h1, h2⟩ := rds_ok e2
        refine ⟨fun b hb => ?_, congrArg (· + 1) h2⟩
        rcases List.mem_cons.mp hb with rfl | hb
        · exact rd_ok e
        · exact h1 b hb
theorem part_len3 (x y : Str) : (Txt.partition x y).2.2.length ≤ x.length := by
  rcases partition_whole x y with ⟨e, _⟩ | ⟨i, e, _⟩
  · rw [e]
    exact Nat.zero_le _
  · rw [TL.len_tl (Txt.partition x y).2.2, e]
    dsimp only
    rw [TL.tl_strSub_end, List.length_drop, TL.len_tl x]
    exact Nat.sub_le _ _
def spStackIn (K : PySem.W.Frag) : Sp := fun vs H Q _ => ∃ t : Str, vs = [.str t] ∧ t.length ≤ 1000 ∧ (∀ H', Same H H' → rdS t = none → Q .non H') ∧ ∀ b ws q H', rdS t = some (b, ws) → StkOk b ws → H q = none → Same H H' → StkAt K H' q b ws → Q (.ref q) H'
section
variable {P : Program} {w : World} {K : PySem.W.Frag} {mg : Str → Option Value} {base : Heap}
theorem ok_stack_in (T : Tx w K mg) : Prom P w K mg base CX0 8 "stack_in" s_stack_in ["text"] (spStackIn K) := by
  refine Prom.of T.d_stack_in sc_stack_in (fun vs H Q E h => ?_) (fun _ _ _ _ _ _ us hl => match us, hl with | [_], _ => rfl) (fun f cdv A outer s H vs Q E hr h => ?_)
  · obtain ⟨z, rfl, _⟩ := h
    rfl
  · obtain ⟨z, rfl, hz, k0, k⟩ := h
    refine ⟨_, (pss_cons (ps_set (i := 1) sc_stack_in.nd rfl (Or.inl rfl) (pe_split (pv 0) pe_str))
      (pss_cons (ps_asg (pe_partition (pe_ix ix_list (pv 1) pe_int (fun _ _ => rfl)) pe_str) (pg_tup rfl (pgs_cons (pg_name (i := 2) sc_stack_in.nd rfl (Or.inl rfl)) (pgs_cons (pg_name (i := 3) sc_stack_in.nd rfl (Or.inl rfl)) (pgs_cons (pg_name (i := 4) sc_stack_in.nd rfl (Or.inl rfl)) pgs_nil)))))
      (pss_cons (ps_par (i := 5) (j := 6) (by rfl) sc_stack_in.nd rfl rfl (by decide) rfl rfl (pa_cons (pe_callP (ok_amount_of T) (hr.mono (by decide)) (by rfl) pass0 (pa_cons (pv 4) pa_nil)) (pa_cons (pe_lc (own := [("row", 7)]) (g := (gName 7)) (tt := tYes) (by rfl) sc_stack_in.nd (pi_list (pe_slice sl_list (pv 1) (po_some pe_int) po_none)) (blkOk_by (own := [("row", 7)]) (N := ["text", "rows", "word", "gap", "rest", "base", "wraps", "row"]) (sc := defScope s_stack_in) (by decide +kernel)) (fun _ _ _ _ _ => (pg_name (i := 7) sc_stack_in.nd rfl (Or.inl rfl))) (fun _ _ _ _ _ => pts_nil) (fun _ _ _ _ _ => (pe_callP (ok_wrap_in T) (hr.mono (by decide)) (by rfl) pass0 (pa_cons (pv 7) pa_nil)))) pa_nil)) (by rfl))
      (pss_cons (ps_if (PW.pt (pw_or (pt_cmpR op_ne (pv 2) pe_str (nomark _)) (pw_or (pt_not (pt_val (pe_callP (ok_is_between T) (hr.mono (by decide)) (by rfl) pass0 (pa_cons (pv 5) (pa_cons pe_int (pa_cons pe_int pa_nil)))))) (pw_or1 (pt_cmp (pc_gt (pe_callB call_len_seq (by rfl) T.b_len (by decide +kernel) (pa_cons (pv 6) pa_nil)) (pe_gint T.c_MOST_WRAPS))))))) (pss_one (ps_ret pe_non)) pss_nil)
      (pss_cons (ps_if (PW.pt (pw_or (pt_cmpR (op_inN (ok_Wrap_eqN T) NW.mon (hr.mono (by decide)) pass0) pe_non (pv 6) (by rfl)) (pw_or1 (pt_cmp (pc_gt (pe_callP (ok_fineness_of T) (hr.mono (by decide)) (by rfl) pass0 (pa_cons (pv 6) pa_nil)) (pe_gint T.c_MOST_FINENESS)))))) (pss_one (ps_ret pe_non)) pss_nil)
      (pss_one (ps_ret (pe_newS (ok_Stack T) (hr.mono (by decide)) (by rfl) pass0 (pa_cons (pv 5) (StX.pa_star (pv 6) pa_nil)))))))))), ?_⟩
    obtain ⟨r0, rs, es1⟩ : ∃ r0 rs, Txt.split z "\n" = r0 :: rs := by
      match e : Txt.split z "\n" with
      | k :: ws => exact ⟨k, ws, rfl⟩
      | [] =>
        have := split_pos z "\n"
        rw [e] at this
        simp at this
    have short : ∀ y ∈ r0 :: rs, y.length ≤ 1000 := fun y hy => Nat.le_trans (part_short (x := z) (y := "\n") (by rw [es1]; exact hy)) hz
    have hrs : rs.length ≤ 1002 := by
      have := split_le z "\n"
      rw [es1, List.length_cons] at this
      omega
    refine ⟨_, rfl, ⟨_, rfl⟩, _, _, rfl, rfl, by decide +kernel, Nat.le_trans (Nat.add_le_add_right hz 2) (by decide), fun l hl => ?_⟩
    rw [es1]
    have s1 : Same H (upd H l (.lst ((r0 :: rs).map V.str))) := up hl
    refine ⟨_, rfl, l, _, _, _, rfl, rfl, SqL.of upd_same, at_of (j := 0) rfl rfl, ⟨_, rfl⟩, _, _, rfl, rfl, by decide +kernel, Nat.le_trans (short r0 (.head _)) (by decide), fun p hp => ?_⟩
    obtain ⟨pt, ept⟩ : ∃ pt, pt = Txt.partition r0 " " := ⟨_, rfl⟩
    refine ⟨p, _, rfl, SqT.of upd_same, rfl, ?_⟩
    refine ⟨_, _, rfl, _, _, rfl, _, _, rfl, rfl, ?_⟩
    have pl : pt.2.2.length ≤ 2000 := by
      rw [ept]
      exact Nat.le_trans (part_len3 r0 " ") (Nat.le_trans (short r0 (.head _)) (by decide))
    refine st_eq [some (.str z), some (.ref l), some (.str pt.1), some (.str pt.2.1), some (.str pt.2.2), none, none, none] (by rw [ept]; rfl) ?_
    have s2 := fun (o : HO) => up (o := o) hp
    refine ⟨_, rfl, _, rfl, pl, ?_⟩
    refine ⟨_, rfl, _, rfl, l, _, rfl, SqL.of (s2 _ _ _ upd_same), fun q hq => ?_⟩
    have ecut : cutV ((r0 :: rs).map V.str) (some 1) none = rs.map V.str := by
      have e : HT.sIx ((r0 :: rs).map V.str).length 0 (some 1) = min 1 ((r0 :: rs).map V.str).length := HT.sIx_nat _ 0 1
      unfold cutV
      rw [e, HT.sIx_none, List.length_map, List.length_cons, Nat.min_eq_left (by omega)]
      show (rs.map V.str).take (rs.length + 1 - 1) = rs.map V.str
      rw [Nat.add_sub_cancel, List.take_of_length_le (by rw [List.length_map]; omega)]
    rw [ecut]
    have s3 := up (o := .lst (rs.map V.str)) hq
    refine ⟨q, rfl, ⟨_, SqL.of upd_same⟩, fun D hD => ?_⟩
    have sD := up (o := .lst []) hD
    refine lc_list (K := K) (a := q) (xs := rs.map V.str) (Pv := fun j H' => Same H H' ∧ H' q = some (.lst (rs.map V.str)) ∧ ∃ zs, H' D = some (.lst zs) ∧ RdsAt K H' zs ((rs.take j).map rdW)) ⟨fun a o e => sD _ _ (s3 _ _ (s2 _ _ _ (s1 _ _ e))), sD _ _ upd_same, [], upd_same, .nil⟩ (fun j H' _ h => SqL.of h.2.1) ?_ ?_
    · rintro j x H1 hj ⟨hs, gq, zs, gD, hr⟩
      obtain ⟨y, hy, rfl⟩ : ∃ y, rs[j]? = some y ∧ x = V.str y := by
        rw [List.getElem?_map] at hj
        cases e : rs[j]? with
        | none =>
          rw [e] at hj
          cases hj
        | some n =>
          rw [e] at hj
          exact ⟨n, rfl, (Option.some.inj hj).symm⟩
      have hjl : j < rs.length := by
        rcases List.getElem?_eq_some_iff.mp hy with ⟨z, _⟩
        exact z
      have zl : zs.length < sizeLine := by
        rw [hr.len, List.length_map, List.length_take, sizeLine_eq]
        omega
      have et : (rs.take (j + 1)).map rdW = (rs.take j).map rdW ++ [rdW y] := by
        rw [List.take_succ, hy, List.map_append]
        rfl
      have nD : ∀ {a : Addr} {o : HO}, H a = some o → a ≠ D := fun e => ne_of_none (s3 _ _ (s2 _ _ _ (s1 _ _ e))) hD
      have nq : q ≠ D := ne_of_none upd_same hD
      refine ⟨rfl, _, rfl, y, rfl, short y (.tail _ (List.mem_of_getElem? hy)), fun H2 s4 en => ?_, fun a q2 H2 ea n2 s4 wa => ?_⟩
      · refine ⟨zs, s4 _ _ gD, zl, fun b o e => ?_, ?_, _, upd_same, ?_⟩
        · rw [upd_ne (nD e)]
          exact s4 _ _ (hs _ _ e)
        · rw [upd_ne nq]
          exact s4 _ _ gq
        · rw [et, en]
          exact RdsAt.upd (s4 _ _ gD) (hr.same s4).snocN
      · refine ⟨zs, s4 _ _ gD, zl, fun b o e => ?_, ?_, _, upd_same, ?_⟩
        · rw [upd_ne (nD e)]
          exact s4 _ _ (hs _ _ e)
        · rw [upd_ne nq]
          exact s4 _ _ gq
        · rw [et, ea]
          exact RdsAt.upd (s4 _ _ gD) ((hr.same s4).snocR wa)
    · rintro H1 ⟨hs, gq, zs, gD, hr⟩
      rw [List.length_map, List.take_length] at hr
      have er : rdS z = if pt.1 = "base" ∧ 2 ≤ numV pt.2.2 ∧ numV pt.2.2 ≤ 256 ∧ rs.length ≤ 6 then (match rs.mapM rdW with | some ws => if fineL ws ≤ 120 then some (numV pt.2.2, ws) else none | none => none) else none := by
        unfold rdS
        rw [es1, ept]
      refine ⟨_, _, rfl, ?_⟩
      refine st_eq [some (.str z), some (.ref l), some (.str pt.1), some (.str pt.2.1), some (.str pt.2.2), some (.int (numV pt.2.2)), some (.ref D), none] rfl ?_
      refine ⟨_, rfl, rfl, _, rfl, ifn (fun c => ?_) (fun c => ?_)⟩
      · refine k0 _ hs ?_
        rw [er, if_neg fun h => c (by rw [h.1])]
      have ew : pt.1 = "base" := by
        have c : V.str pt.1 = V.str "base" := c
        injection c
      refine ⟨_, rfl, _, _, _, rfl, _, rfl, ?_⟩
      refine ifn (fun c2 => ?_) (fun c2 => ?_)
      · refine k0 _ hs ?_
        rw [er, if_neg fun h => c2 ⟨h.2.1, h.2.2.1⟩]
      have zl : zs.length = rs.length := by rw [hr.len, List.length_map]
      refine ⟨_, rfl, D, _, rfl, .inl (SqL.of gD), _, _, rfl, rfl, _, rfl, ifd (fun c3 => ?_) (fun c3 => ?_)⟩
      · have c3 : (zs.length : Int) > 6 := c3
        refine k0 _ hs ?_
        rw [er, if_neg fun h => absurd h.2.2.2 (by omega)]
      have c3 : ¬ (zs.length : Int) > 6 := c3
      rw [if_pos ⟨ew, c2.1, c2.2, by omega⟩] at er
      refine ⟨_, rfl, D, zs, rfl, rfl, SqL.of gD, hr.each, fun H2 e2 => ?_⟩
      have s2H : Same H H2 := fun a o e => e2 _ _ (hs _ _ e)
      refine ⟨_, rfl, ?_⟩
      cases en : zs.any isNon with
      | true =>
        refine iteT (k0 _ s2H ?_)
        rw [er, RdsAt.some_none hr en]
      | false =>
        obtain ⟨ws, ews, hw⟩ := RdsAt.all hr en
        obtain ⟨wok, wl⟩ := rds_ok ews
        rw [ews] at er
        refine iteF ?_
        refine ⟨_, rfl, D, zs, ws, rfl, .inl (SqL.of (e2 _ _ gD)), hw.same e2, wok, fun H3 s3 => ?_⟩
        have s3H : Same H H3 := fun a o e => s3 _ _ (s2H _ _ e)
        refine ⟨_, _, rfl, rfl, _, rfl, ifd (fun c4 => ?_) (fun c4 => ?_)⟩
        · have c4 : fineL ws > 120 := c4
          refine k0 _ s3H ?_
          rw [er]
          exact if_neg (by omega)
        · have c4 : ¬ fineL ws > 120 := c4
          have er : rdS z = some (numV pt.2.2, ws) := er.trans (if_pos (by omega))
          have so : StkOk (numV pt.2.2) ws := ⟨c2.1, c2.2, wok, by omega, by omega⟩
          refine ⟨_, rfl, _, rfl, D, zs, rfl, .inr (SqL.of (s3 _ _ (e2 _ _ gD))), _, zs, ws, ?_, so, (hw.same e2).same s3, fun q3 H4 n4 s4 h4 => ?_⟩
          · show V.int (numV pt.2.2) :: (zs ++ []) = _
            rw [List.append_nil]
          · refine k _ ws q3 H4 er so ?_ (fun x o e => s4 _ _ (s3H _ _ e)) h4
            cases e3 : H q3 with
            | none => rfl
            | some o =>
              rw [s3H _ _ e3] at n4
              cases n4
end
/-! ### texts that the law makes: short, of plain signs -/
def Good (n : Nat) (s : Str) : Prop := s.length ≤ n ∧ PyData.strOk s = true
theorem ok_mem {s : Str} : PyData.strOk s = true ↔ ∀ c ∈ TL.tl s, c < 0x110000 := by
  show s.cps.all (· < 0x110000) = true ↔ _
  rw [← Array.all_toList, List.all_eq_true]
  exact ⟨fun h c hc => of_decide_eq_true (h c hc), fun h c hc => decide_eq_true (h c hc)⟩
theorem joinL_mem2 {S : List Nat} {c : Nat} : ∀ {ps : List (List Nat)}, c ∈ TL.joinL S ps → c ∈ S ∨ ∃ p ∈ ps, c ∈ p
  | [], h => by cases h
  | [p], h => .inr ⟨p, .head _, h⟩
  | p :: q :: r, h => by
    have h : c ∈ p ++ (S ++ TL.joinL S (q :: r)) := h
    rcases List.mem_append.mp h with h | h
    · exact .inr ⟨p, .head _, h⟩
    rcases List.mem_append.mp h with h | h
    · exact .inl h
    rcases joinL_mem2 h with h | ⟨x, hx, h⟩
    · exact .inl h
    · exact .inr ⟨x, .tail _ hx, h⟩
theorem good_app {m n : Nat} {x y : Str} (h : Good m x) (g : Good n y) : Good (m + n) (x ++ y) := by
  refine ⟨by rw [PySem.Str.length_append]; exact Nat.add_le_add h.1 g.1, ok_mem.mpr fun c hc => ?_⟩
  rw [TL.tl_append] at hc
  rcases List.mem_append.mp hc with hc | hc
  · exact ok_mem.mp h.2 c hc
  · exact ok_mem.mp g.2 c hc
theorem sum_le_of {n : Nat} : ∀ {ps : List Str}, (∀ p ∈ ps, Good n p) → (ps.map (·.length)).sum ≤ n * ps.length
  | [], _ => Nat.zero_le _
  | p :: ps, h => by
    have h1 := (h p (.head _)).1
    have h2 := sum_le_of fun q hq => h q (.tail _ hq)
    simp only [List.map_cons, List.sum_cons, List.length_cons, Nat.mul_add]
    omega
theorem good_join {n : Nat} {sep : Str} (hs : Good 1 sep) {ps : List Str} (h : ∀ p ∈ ps, Good n p) : Good ((n + 1) * ps.length) (Txt.join sep ps) := by
  rw [TL.join_eq]
  refine ⟨?_, ok_mem.mpr fun c hc => ?_⟩
  · have h1 := StrLaws.join_length_le sep ps
    have h2 := sum_le_of h
    have h3 := Nat.mul_le_mul_left ps.length hs.1
    rw [Nat.add_mul]
    omega
  · rw [TL.tl_join] at hc
    rcases joinL_mem2 hc with hc | ⟨p, hp, hc⟩
    · exact ok_mem.mp hs.2 c hc
    · obtain ⟨q, hq, rfl⟩ := List.mem_map.mp hp
      exact ok_mem.mp (h q hq).2 c hc
theorem good_num {i : Int} (h0 : 0 ≤ i) (h1 : i ≤ 1000) : Good 5 (Str.ofString (toString i)) := by
  refine ⟨Nat.le_trans (toString_length_le h0 (k := 4) (by decide) (by omega)) (by decide), ok_mem.mpr fun c hc => ?_⟩
  obtain ⟨n, rfl⟩ : ∃ n : Nat, i = (n : Int) := ⟨i.toNat, by omega⟩
  rw [TL.tl_num] at hc
  have := TL.numL_digits n c hc
  omega
theorem good_mono {m n : Nat} {s : Str} (h : Good m s) (k : m ≤ n) : Good n s := ⟨Nat.le_trans h.1 k, h.2⟩
theorem good_kind (a : Wr) : Good 6 a.kind := by
  cases a with
  | plus _ => exact (show Good 6 "plus" from ⟨by decide, by decide +kernel⟩)
  | told _ => exact (show Good 6 "told" from ⟨by decide, by decide +kernel⟩)
  | whole _ => exact (show Good 6 "whole" from ⟨by decide, by decide +kernel⟩)
  | pieces _ _ => exact (show Good 6 "pieces" from ⟨by decide, by decide +kernel⟩)
  | cut _ _ => exact (show Good 6 "cut" from ⟨by decide, by decide +kernel⟩)
  | coded _ _ => exact (show Good 6 "coded" from ⟨by decide, by decide +kernel⟩)
  | filled _ => exact (show Good 6 "filled" from ⟨by decide, by decide +kernel⟩)
theorem nums_good {a : Wr} (h : a.ok) : ∀ i ∈ a.nums, 0 ≤ i ∧ i ≤ 1000 := by
  intro i hi
  cases a with
  | plus c => simp only [Wr.nums, List.mem_cons, List.not_mem_nil, or_false] at hi; subst hi; exact h
  | told c => simp only [Wr.nums, List.mem_cons, List.not_mem_nil, or_false] at hi; subst hi; exact h
  | whole c => simp only [Wr.nums, List.mem_cons, List.not_mem_nil, or_false] at hi; subst hi; exact h
  | filled c => simp only [Wr.nums, List.mem_cons, List.not_mem_nil, or_false] at hi; subst hi; simp only [Wr.ok] at h; omega
  | pieces m c => simp only [Wr.nums, List.mem_cons, List.not_mem_nil, or_false] at hi; simp only [Wr.ok] at h; omega
  | cut m c => simp only [Wr.nums, List.mem_cons, List.not_mem_nil, or_false] at hi; simp only [Wr.ok] at h; omega
  | coded m c => simp only [Wr.nums, List.mem_cons, List.not_mem_nil, or_false] at hi; simp only [Wr.ok] at h; omega
theorem nums_len2 (a : Wr) : a.nums.length ≤ 2 := by cases a <;> simp [Wr.nums]
theorem numV_thou : (List.range 1001).all (fun n => numV (Str.ofString (toString ((n : Nat) : Int))) == ((n : Nat) : Int)) = true := by decide +kernel
theorem numV_num {i : Int} (h0 : 0 ≤ i) (h1 : i ≤ 1000) : numV (Str.ofString (toString i)) = i := by
  obtain ⟨n, rfl⟩ : ∃ n : Nat, i = (n : Int) := ⟨i.toNat, by omega⟩
  exact eq_of_beq (List.all_eq_true.mp numV_thou n (List.mem_range.mpr (by omega)))
/-- the text of a wrap -/
def wTxt (a : Wr) : Str := Txt.join " " (a.kind :: a.nums.map fun i => Str.ofString (toString i))
theorem kind_free (a : Wr) : 32 ∉ TL.tl a.kind := by
  cases a with
  | plus _ => exact (show 32 ∉ TL.tl "plus" by decide +kernel)
  | told _ => exact (show 32 ∉ TL.tl "told" by decide +kernel)
  | whole _ => exact (show 32 ∉ TL.tl "whole" by decide +kernel)
  | pieces _ _ => exact (show 32 ∉ TL.tl "pieces" by decide +kernel)
  | cut _ _ => exact (show 32 ∉ TL.tl "cut" by decide +kernel)
  | coded _ _ => exact (show 32 ∉ TL.tl "coded" by decide +kernel)
  | filled _ => exact (show 32 ∉ TL.tl "filled" by decide +kernel)
theorem wTxt_reads {a : Wr} (h : a.ok) : rdW (wTxt a) = some a := by
  unfold rdW wTxt
  rw [TL.split_join (y := " ") (s := 32) (S := []) rfl (by decide +kernel) (by simp) (fun p hp => by
    rcases List.mem_cons.mp hp with rfl | hp
    · exact kind_free a
    · obtain ⟨i, hi, rfl⟩ := List.mem_map.mp hp
      have hb := nums_good h i hi
      obtain ⟨n, rfl⟩ : ∃ n : Nat, i = (n : Int) := ⟨i.toNat, by omega⟩
      rw [TL.tl_num]
      exact TL.numL_free (.inl (by decide)))]
  show mkW a.kind ((a.nums.map fun i => Str.ofString (toString i)).map numV) = some a
  rw [List.map_map]
  have e : a.nums.map (numV ∘ fun i => Str.ofString (toString i)) = a.nums := by
    conv => rhs; rw [← List.map_id a.nums]
    refine List.map_congr_left fun i hi => ?_
    have hb := nums_good h i hi
    exact numV_num hb.1 hb.2
  rw [e]
  exact mkW_ok h
/-! ### texts of stacks that read back -/
theorem text_wTxt (a : Wr) : a.text = wTxt a := rfl
theorem wTxt_good {a : Wr} (h : a.ok) : Good 21 (wTxt a) := by
  have g : ∀ x ∈ a.kind :: a.nums.map fun i => Str.ofString (toString i), Good 6 x := by
    intro x hx
    rcases List.mem_cons.mp hx with rfl | hx
    · exact good_kind a
    · obtain ⟨i, hi, rfl⟩ := List.mem_map.mp hx
      have hb := nums_good h i hi
      exact good_mono (good_num hb.1 hb.2) (by decide)
  have gj := good_join (sep := " ") ⟨by decide, by decide +kernel⟩ g
  have n2 := nums_len2 a
  have gl : (a.kind :: a.nums.map fun i => Str.ofString (toString i)).length ≤ 3 := by
    rw [List.length_cons, List.length_map]
    omega
  exact good_mono gj (by omega)
theorem num_free {i : Int} (h : 0 ≤ i) {s : Nat} (hs : s < 48 ∨ 57 < s) : s ∉ TL.tl (Str.ofString (toString i)) := by
  obtain ⟨n, rfl⟩ : ∃ n : Nat, i = (n : Int) := ⟨i.toNat, by omega⟩
  rw [TL.tl_num]
  exact TL.numL_free hs
theorem kind_free10 (a : Wr) : 10 ∉ TL.tl a.kind := by
  cases a with
  | plus _ => exact (show 10 ∉ TL.tl "plus" by decide +kernel)
  | told _ => exact (show 10 ∉ TL.tl "told" by decide +kernel)
  | whole _ => exact (show 10 ∉ TL.tl "whole" by decide +kernel)
  | pieces _ _ => exact (show 10 ∉ TL.tl "pieces" by decide +kernel)
  | cut _ _ => exact (show 10 ∉ TL.tl "cut" by decide +kernel)
  | coded _ _ => exact (show 10 ∉ TL.tl "coded" by decide +kernel)
  | filled _ => exact (show 10 ∉ TL.tl "filled" by decide +kernel)
theorem wTxt_free {a : Wr} (h : a.ok) : 10 ∉ TL.tl (wTxt a) := fun hc => by
  unfold wTxt at hc
  rw [TL.join_eq, TL.tl_join] at hc
  rcases joinL_mem2 hc with hc | ⟨p, hp, hc⟩
  · exact absurd hc (by decide +kernel)
  · obtain ⟨q, hq, rfl⟩ := List.mem_map.mp hp
    rcases List.mem_cons.mp hq with rfl | hq
    · exact kind_free10 a hc
    · obtain ⟨i, hi, rfl⟩ := List.mem_map.mp hq
      exact num_free (nums_good h i hi).1 (.inl (by decide)) hc
theorem base_eq (b : Int) : baseText b = ("base" : Str) ++ " " ++ Str.ofString (toString b) := by
  unfold baseText
  rw [PySem.Str.empty_append]
  have e : ("base " : Str) = ("base" : Str) ++ " " := by decide +kernel
  rw [e]
theorem base_free {b : Int} (h : 0 ≤ b) : 10 ∉ TL.tl (baseText b) := fun hc => by
  rw [base_eq, TL.tl_append] at hc
  rcases List.mem_append.mp hc with hc | hc
  · exact absurd hc (by decide +kernel)
  · exact num_free h (.inl (by decide)) hc
theorem base_good {b : Int} (h0 : 0 ≤ b) (h1 : b ≤ 1000) : Good 10 (baseText b) := by
  rw [base_eq]
  exact good_app (m := 5) (n := 5) (good_app (m := 4) (n := 1) ⟨by decide, by decide +kernel⟩ ⟨by decide, by decide +kernel⟩) (good_num h0 h1)
theorem stk_good {b : Int} {ws : List Wr} (b0 : 0 ≤ b) (b1 : b ≤ 1000) (h : ∀ a ∈ ws, a.ok) : Good (22 * (ws.length + 1)) (stkText b ws) := by
  have g : ∀ x ∈ baseText b :: ws.map Wr.text, Good 21 x := by
    intro x hx
    rcases List.mem_cons.mp hx with rfl | hx
    · exact good_mono (base_good b0 b1) (by decide)
    · obtain ⟨a, ha, rfl⟩ := List.mem_map.mp hx
      exact wTxt_good (h a ha)
  have gj := good_join (sep := "\n") ⟨by decide, by decide +kernel⟩ g
  rw [List.length_cons, List.length_map] at gj
  exact gj
theorem stk_split {b : Int} {ws : List Wr} (b0 : 0 ≤ b) (h : ∀ a ∈ ws, a.ok) : Txt.split (stkText b ws) "\n" = baseText b :: ws.map Wr.text := by
  unfold stkText
  exact TL.split_join (y := "\n") (s := 10) (S := []) rfl (by decide +kernel) (by simp) (fun p hp => by
    rcases List.mem_cons.mp hp with rfl | hp
    · exact base_free b0
    · obtain ⟨a, ha, rfl⟩ := List.mem_map.mp hp
      exact wTxt_free (h a ha))
theorem rds_texts : ∀ {ws : List Wr}, (∀ a ∈ ws, a.ok) → (ws.map Wr.text).mapM rdW = some ws
  | [], _ => rfl
  | a :: ws, h => by
    rw [List.map_cons, List.mapM_cons, text_wTxt, wTxt_reads (h a (.head _)), rds_texts fun x hx => h x (.tail _ hx)]
    rfl
theorem stk_reads {b : Int} {ws : List Wr} (so : StkOk b ws) : rdS (stkText b ws) = some (b, ws) := by
  have b0 := so.b0
  have b1 := so.b1
  unfold rdS
  rw [stk_split (by omega) so.ok]
  have ep : Txt.partition (baseText b) " " = ((("base" : Str), ((" " : Str), Str.ofString (toString b))) : Str × Str × Str) := by
    rw [base_eq]
    exact TL.partition_app (y := " ") (s := 32) (S := []) rfl (by decide +kernel)
  simp only [ep, numV_num (show 0 ≤ b by omega) (show b ≤ 1000 by omega), rds_texts so.ok, List.length_map]
  rw [if_pos ⟨trivial, b0, b1, so.len⟩, if_pos so.fine]
/-! ### the stack that a text tells, by the class -/
def spReadS (K : PySem.W.Frag) : Sp := fun vs H Q _ => ∃ (t : Str) (b : Int) (ws : List Wr), vs = [.str t] ∧ t.length ≤ 1000 ∧ rdS t = some (b, ws) ∧ StkOk b ws ∧ ∀ q H', H q = none → Same H H' → StkAt K H' q b ws → Q (.ref q) H'
section
variable {P : Program} {w : World} {K : PySem.W.Frag} {mg : Str → Option Value} {base : Heap}
theorem ok_Stack_read (T : Tx w K mg) : PromS P w K mg base CX0 9 "Stack" "read" "Stack.read" s_Stack_read ["text"] (spReadS K) := by
  refine PromS.of T.sm_Stack_read T.ds_Stack_read sc_Stack_read (fun vs H Q E h => ?_) (fun _ _ _ _ _ _ us hl => match us, hl with | [_], _ => rfl) (fun f cdv A outer s H vs Q E hr h => ?_)
  · obtain ⟨t, b, ws, rfl, _⟩ := h
    rfl
  · obtain ⟨t, b, ws, rfl, ht, er, so, k⟩ := h
    refine ⟨_, (pss_cons (ps_set (i := 1) sc_Stack_read.nd rfl (Or.inl rfl) (pe_ifExp (pt_val (pe_callB call_isi (by rfl) T.b_isinstance (by decide +kernel) (pa_cons (pv 0) (pa_cons (pe_bltn (v := .ty "str") (by rfl) T.b_str (by decide +kernel) rfl) pa_nil)))) (pe_callP (ok_stack_in T) (hr.mono (by decide)) (by rfl) pass0 (pa_cons (pv 0) pa_nil)) pe_non))
      (pss_cons (ps_if (pt_cmpR op_isN (pv 1) pe_non (nomark _)) (pss_one ps_never) pss_nil)
      (pss_one (ps_ret (pv 1))))), ?_⟩
    refine ⟨_, rfl, _, _, _, _, true, rfl, .ty _, .base (.str t), kit_self, true, rfl, iteT ?_⟩
    refine ⟨_, rfl, t, rfl, ht, fun H' s e => ?_, fun b' ws' q H' e so' n s st => ?_⟩
    · rw [er] at e
      cases e
    · rw [er] at e
      cases e
      exact ⟨_, rfl, rfl, _, rfl, iteF ⟨_, rfl, k q H' n s st⟩⟩
end
theorem same_before {q : Addr} {H H1 : Hp} (d : Same H H1) (hq : H1 q = none) : H q = none := by
  cases e : H q with
  | none => rfl
  | some o => rw [d _ _ e] at hq; cases hq
/-! ### the law's own stacks -/
def spStackP (K : PySem.W.Frag) : Sp := fun vs H Q _ => ∃ (l : Addr) (b : Int) (xs : List V) (ws : List Wr), vs = [.int b, .ref l] ∧ H l = some (.lst xs) ∧ PlansAt H xs ws ∧ StkOk b ws ∧ ∀ q H', H q = none → Same H H' → StkAt K H' q b ws → Q (.ref q) H'
section
variable {P : Program} {w : World} {K : PySem.W.Frag} {mg : Str → Option Value} {base : Heap}
theorem ok_L_stack (T : Tx w K mg) : Prom P w K mg base CX0 10 "_law_stack" s_L_stack ["_law_root_here", "_law_plans"] (spStackP K) := by
  refine Prom.of T.d_L_stack sc_L_stack (fun vs H Q E h => ?_) (fun _ _ _ _ _ _ us hl => match us, hl with | [_, _], _ => rfl) (fun f cdv A outer s H vs Q E hr h => ?_)
  · obtain ⟨l, b, xs, ws, rfl, _⟩ := h
    rfl
  · obtain ⟨l, b, xs, ws, rfl, hl, hp, so, k⟩ := h
    refine ⟨_, (pss_one (ps_ret (pe_smethP (ok_Stack_read T) (hr.mono (by decide)) pass0 (pe_glob (v := .ref _) (by rfl) T.k_Stack rfl) (pa_cons (pe_callP (ok_L_rows T) (hr.mono (by decide)) (by rfl) pass0 (pa_cons (pv 0) (pa_cons (pv 1) pa_nil))) pa_nil)))), ?_⟩
    refine ⟨rfl, _, rfl, _, rfl, l, b, xs, ws, rfl, hl, hp, so, fun H1 s1 => ?_⟩
    have hlen := so.len
    have g := stk_good (b := b) (ws := ws) (by have := so.b0; omega) (by have := so.b1; omega) so.ok
    exact ⟨_, b, ws, rfl, by have := g.1; omega, stk_reads so, so, fun q H2 hq s2 st => k q H2 (same_before s1 hq) (s1.trans s2) st⟩
end
/-! ### stacks without heads: what is asked of their lengths, changes and stretches -/
def isHead : Wr → Bool
  | .told _ => true
  | .whole _ => true
  | _ => false
def NoHead (ws : List Wr) : Prop := ∀ a ∈ ws, isHead a = false
def spTold0 (K : PySem.W.Frag) : Sp := fun vs H Q _ => ∃ (q : Addr) (b : Int) (ws : List Wr) (n : Int), vs = [.ref q, .int n] ∧ StkAt K H q b ws ∧ StkOk b ws ∧ NoHead ws ∧ 0 ≤ n ∧ n < 2 ^ 1000 ∧ ∀ l H', H l = none → Same H H' → H' l = some (.lst []) → Q (.ref l) H'
def spChanges0 (K : PySem.W.Frag) : Sp := fun vs H Q _ => ∃ (q : Addr) (b : Int) (ws : List Wr) (n m : Int), vs = [.ref q, .int n, .int m] ∧ StkAt K H q b ws ∧ StkOk b ws ∧ NoHead ws ∧ 0 ≤ n ∧ n < 2 ^ 1000 ∧ 0 ≤ m ∧ m < 2 ^ 1000 ∧ ∀ l H', H l = none → Same H H' → H' l = some (.lst []) → Q (.ref l) H'
def spStretch0 (K : PySem.W.Frag) : Sp := fun vs H Q _ => ∃ (q : Addr) (b : Int) (ws : List Wr) (n m : Int), vs = [.ref q, .int n, .int m] ∧ StkAt K H q b ws ∧ StkOk b ws ∧ NoHead ws ∧ 0 ≤ n ∧ n < 2 ^ 1000 ∧ 0 ≤ m ∧ m < 2 ^ 1000 ∧ ∀ l t H', H l = none → H t = none → Same H H' → H' l = some (.lst [.ref t]) → H' t = some (.tup [.int n, .int m]) → Q (.ref l) H'
section
variable {P : Program} {w : World} {K : PySem.W.Frag} {mg : Str → Option Value} {base : Heap}
theorem ok_told_lengths (T : Tx w K mg) : Prom P w K mg base CX0 5 "told_lengths" s_told_lengths ["stack", "length"] (spTold0 K) := by
  refine Prom.of T.d_told_lengths sc_told_lengths (fun vs H Q E h => ?_) (fun _ _ _ _ _ _ us hl => match us, hl with | [_, _], _ => rfl) (fun f cdv A outer s H vs Q E hr h => ?_)
  · obtain ⟨q, b, ws, n, rfl, _⟩ := h
    rfl
  · obtain ⟨q, b, ws, n, rfl, hst, so, nh, n0, n1, k⟩ := h
    refine ⟨_, (pss_cons (ps_set (i := 2) sc_told_lengths.nd rfl (Or.inl rfl) (pe_lst pa_nil))
      (pss_cons (ps_for PassesOwn.never (by rfl) (pi_tup (pe_fld (pv 0) rfl)) (pg_name (i := 3) sc_told_lengths.nd rfl (Or.inl rfl)) (pss_cons (ps_set (i := 4) sc_told_lengths.nd rfl (Or.inl rfl) (pe_methP (ok_Wrap_grown T) (hr.mono (by decide)) pass0 (pv 3) (pa_cons (pv 1) (pa_cons (pe_fld (pv 0) rfl) pa_nil))))
      (pss_cons (ps_if (pt_cmpR op_in_seq (pe_fld (pv 3) rfl) (pe_tup (pa_cons pe_str (pa_cons pe_str pa_nil))) (by rfl)) (pss_one (ps_expr (pe_bm PySem.F.plainAttrs_list PySem.F.slot_list_append PySem.F.type_list_append mt_append (pv 2) (pa_cons (pe_ifExp (pt_cmpR op_eq (pe_fld (pv 3) rfl) pe_str (nomark _)) (pv 1) (pv 4)) pa_nil)))) pss_nil)
      (pss_one (ps_set (i := 1) sc_told_lengths.nd rfl (Or.inl rfl) (pv 4))))))
      (pss_one (ps_ret (pv 2))))), ?_⟩
    obtain ⟨dx, t, xs, hq, ht, hw⟩ := id hst
    refine ⟨Nat.zero_le _, fun F hF => gn ?_⟩
    refine st_eq [some (.ref q), some (.int n), some (.ref F), none, none] rfl ?_
    have s1 := up (o := .lst []) hF
    refine ⟨_, rfl, q, _, dx, _, _, rfl, s1 _ _ hq, T.cl_Stack, T.na_Stack_wraps, rfl, t, rfl, ⟨_, SqT.of (s1 _ _ ht)⟩, for_it (walk_tup (K := K) (a := t) (xs := xs)) (fun i σ H' => Same (upd H F (.lst [])) H' ∧ ∃ v v', σ = [some (.ref q), some (.int (grS b (ws.take i) n)), some (.ref F), v, v']) ⟨Same.refl _, none, none, rfl⟩ (fun _ _ H' _ h => SqT.of (h.1 _ _ (s1 _ _ ht))) ?_ ?_⟩
    · rintro i x σ H1 H2 hi ⟨sh, v, v', rfl⟩ ⟨rfl, hx⟩
      have s1 := s1.trans sh
      obtain ⟨r, a, rfl, hr2, hw1⟩ := (hw.same s1).get hx
      have hm := List.mem_of_getElem? hr2
      have hok := so.ok a hm
      obtain ⟨dx2, p, h1, h2⟩ := id hw1
      have et : grS b (ws.take (i + 1)) n = a.gr b (grS b (ws.take i) n) := by
        unfold grS
        rw [List.take_succ, hr2, List.foldl_append]
        rfl
      have hl := so.len
      have hlt : (ws.take i).length ≤ 6 := by
        rw [List.length_take]
        omega
      have bd := grS_pow so.b0 (ws.take i) (fun z hz => so.ok z (List.mem_of_mem_take hz)) (show 12 ≤ 1000 by decide) n0 n1
      have bd2 : grS b (ws.take i) n < 2 ^ 3000 := Int.lt_of_lt_of_le bd.2 (pow_mono (by decide) (by omega))
      rw [et]
      generalize grS b (ws.take i) n = m at bd bd2 ⊢
      refine ⟨_, rfl, r, dx2, _, rfl, h1, rfl, _, rfl, _, rfl, q, _, dx, _, _, rfl, s1 _ _ hq, T.cl_Stack, T.na_Stack_base, rfl, a, r, m, b, rfl, hw1, hok, so.b0, so.b1, bd.1, bd2, ?_⟩
      refine ⟨_, rfl, r, _, dx2, _, _, rfl, h1, T.cl_Wrap, T.na_Wrap_kind, rfl, (by show 2 ≤ sizeLine; decide), fun u hu => ?_⟩
      have hin : inV (.str a.kind) [V.str "told", V.str "whole"] = false := by
        have := nh a hm
        cases a with
        | told c => cases this
        | whole c => cases this
        | _ => kernel_rfl
      refine ⟨u, _, rfl, .inr (SqT.of upd_same), rfl, rfl, _, rfl, ?_⟩
      rw [if_neg (show ¬ (false = true) by decide), hin]
      refine iteF ?_
      exact ⟨_, rfl, sh.trans (up hu), _, _, rfl⟩
    · rintro σ H' ⟨sh, v, v', rfl⟩
      exact ⟨_, rfl, k F _ hF (s1.trans sh) (sh _ _ upd_same)⟩
theorem ok_changes (T : Tx w K mg) : Prom P w K mg base CX0 6 "changes" s_changes ["stack", "low", "high"] (spChanges0 K) := by
  refine Prom.of T.d_changes sc_changes (fun vs H Q E h => ?_) (fun _ _ _ _ _ _ us hl => match us, hl with | [_, _, _], _ => rfl) (fun f cdv A outer s H vs Q E hr h => ?_)
  · obtain ⟨q, b, ws, n, m, rfl, _⟩ := h
    rfl
  · obtain ⟨q, b, ws, n, m, rfl, hst, so, nh, n0, n1, m0, m1, k⟩ := h
    refine ⟨_, (pss_cons (ps_set (i := 3) sc_changes.nd rfl (Or.inl rfl) pe_dnewK)
      (pss_cons (ps_par (i := 4) (j := 5) (by rfl) sc_changes.nd rfl rfl (by decide) rfl rfl (pa_cons (pe_callP (ok_told_lengths T) (hr.mono (by decide)) (by rfl) pass0 (pa_cons (pv 0) (pa_cons (pv 1) pa_nil))) (pa_cons (pe_callP (ok_told_lengths T) (hr.mono (by decide)) (by rfl) pass0 (pa_cons (pv 0) (pa_cons (pv 2) pa_nil))) pa_nil)) (by rfl))
      (pss_cons (ps_for PassesOwn.never (by rfl) (pi_enumZ (by rfl) T.b_enumerate (by rfl) T.b_zip (pa_cons (pv 4) (pa_cons (pv 5) pa_nil))) pg_no pss_no)
      (pss_one (ps_ret (pe_callB (call_sortedDI rfl) (by rfl) T.b_sorted (by decide +kernel) (pa_cons (pv 3) pa_nil))))))), ?_⟩
    refine fun D hD => gn ?_
    have s1 := up (o := .dK []) hD
    refine st_eq [some (.ref q), some (.int n), some (.int m), some (.ref D), none, none, none, none, none, none] rfl ?_
    refine ⟨_, rfl, _, rfl, q, b, ws, n, rfl, hst.same s1, so, nh, n0, n1, fun l1 H1 f1 s2 g1 => ⟨_, rfl, _, rfl, q, b, ws, m, rfl, (hst.same s1).same s2, so, nh, m0, m1, fun l2 H2 f2 s3 g2 => ?_⟩⟩
    have gD := s3 _ _ (s2 _ _ (show (upd H D (.dK [])) D = some (.dK []) from upd_same))
    refine ⟨_, _, rfl, ?_⟩
    refine st_eq [some (.ref q), some (.int n), some (.int m), some (.ref D), some (.ref l1), some (.ref l2), none, none, none, none] rfl ?_
    refine ⟨_, rfl, _, rfl, l1, l2, rfl, SqL.of (s3 _ _ g1), SqL.of g2, ⟨fun i n' σ' H' => σ' = [some (.ref q), some (.int n), some (.int m), some (.ref D), some (.ref l1), some (.ref l2), none, none, none, none] ∧ H' = H2, ⟨0, rfl, rfl⟩, ?_⟩⟩
    rintro i n' σ' H' ⟨rfl, rfl⟩
    refine .inl ⟨⟨SqL.of (s3 _ _ g1), SqL.of g2⟩, ?_⟩
    refine ⟨_, rfl, D, [], [], rfl, .of gD, rfl, by decide, fun ys p hp _ hx => ?_⟩
    obtain rfl : ys = [] := hp.eq_nil
    have sA := (s1.trans s2).trans s3
    exact k p _ (same_before sA hx) (sA.trans (up hx)) upd_same
theorem ok_stretches (T : Tx w K mg) : Prom P w K mg base CX0 7 "stretches" s_stretches ["stack", "low", "high"] (spStretch0 K) := by
  refine Prom.of T.d_stretches sc_stretches (fun vs H Q E h => ?_) (fun _ _ _ _ _ _ us hl => match us, hl with | [_, _, _], _ => rfl) (fun f cdv A outer s H vs Q E hr h => ?_)
  · obtain ⟨q, b, ws, n, m, rfl, _⟩ := h
    rfl
  · obtain ⟨q, b, ws, n, m, rfl, hst, so, nh, n0, n1, m0, m1, k⟩ := h
    refine ⟨_, (pss_cons (ps_set (i := 3) sc_stretches.nd rfl (Or.inl rfl) (pe_lst (pa_cons (pv 1) (StX.pa_star (pe_callP (ok_changes T) (hr.mono (by decide)) (by rfl) pass0 (pa_cons (pv 0) (pa_cons (pv 1) (pa_cons (pv 2) pa_nil)))) pa_nil))))
      (pss_one (ps_ret (pe_listZip (by rfl) (by rfl) T.b_list (by rfl) T.b_zip (pa_cons (pv 3) (pa_cons (pe_op op_cat (pe_lc (own := [("start", 4)]) (g := (gName 4)) (tt := tYes) (by rfl) sc_stretches.nd (pi_list (pe_slice sl_list (pv 3) (po_some pe_int) po_none)) (blkOk_by (own := [("start", 4)]) (N := ["stack", "low", "high", "starts", "start"]) (sc := defScope s_stretches) (by decide +kernel)) (fun _ _ _ _ _ => (pg_name (i := 4) sc_stretches.nd rfl (Or.inl rfl))) (fun _ _ _ _ _ => pts_nil) (fun _ _ _ _ _ => (pe_op op_sub (pv 4) pe_int))) (pe_lst (pa_cons (pv 2) pa_nil))) pa_nil)))))), ?_⟩
    refine ⟨_, rfl, _, rfl, _, rfl, _, rfl, q, b, ws, n, m, rfl, hst, so, nh, n0, n1, m0, m1, fun l1 H1 f1 s1 g1 => ?_⟩
    refine ⟨l1, _, rfl, .inr (SqL.of g1), by (show 1 ≤ sizeLine; decide), fun L hL => gn ?_⟩
    refine st_eq [some (.ref q), some (.int n), some (.int m), some (.ref L), none] rfl ?_
    have s2 := s1.trans (up (o := .lst [V.int n]) hL)
    refine ⟨_, rfl, _, rfl, _, rfl, L, _, rfl, SqL.of upd_same, fun l2 h2 => ⟨l2, rfl, ⟨_, SqL.of upd_same⟩, fun D hD => ?_⟩⟩
    have g2 : (upd (upd (upd H1 L (.lst (V.int n :: ([] ++ [])))) l2 (.lst (cutV (V.int n :: ([] ++ [])) (some 1) none))) D (.lst [])) l2 = some (.lst []) := up hD _ _ upd_same
    have gL : (upd (upd (upd H1 L (.lst (V.int n :: ([] ++ [])))) l2 (.lst (cutV (V.int n :: ([] ++ [])) (some 1) none))) D (.lst [])) L = some (.lst [.int n]) := up hD _ _ (up h2 _ _ upd_same)
    have gD : (upd (upd (upd H1 L (.lst (V.int n :: ([] ++ [])))) l2 (.lst (cutV (V.int n :: ([] ++ [])) (some 1) none))) D (.lst [])) D = some (.lst []) := upd_same
    have s3 := (s2.trans (up (o := .lst (cutV (V.int n :: ([] ++ [])) (some 1) none)) h2)).trans (up (o := .lst []) hD)
    refine lc_list (K := K) (a := l2) (xs := []) (Pv := fun i H' => H' = (upd (upd (upd H1 L (.lst (V.int n :: ([] ++ [])))) l2 (.lst (cutV (V.int n :: ([] ++ [])) (some 1) none))) D (.lst []))) rfl (fun i H' _ e => by rw [e]; exact SqL.of g2) (fun i x H' e => by cases e) (fun H' e => ?_)
    subst e
    refine ⟨_, rfl, (by show 1 ≤ sizeLine; decide), fun l4 h4 => ⟨D, l4, [], [.int m], rfl, rfl, up h4 _ _ gD, upd_same, (by show 1 ≤ sizeLine; decide), fun l5 h5 => ?_⟩⟩
    have s5 := (s3.trans (up (o := .lst [.int m]) h4)).trans (up (o := .lst ([] ++ [.int m])) h5)
    refine ⟨L, l5, [.int n], [.int m], rfl, SqL.of (up h5 _ _ (up h4 _ _ gL)), SqL.of upd_same, rfl, fun p H9 ts hp s9 gp lt pt => ?_⟩
    obtain ⟨T0, e0, f0, g0⟩ := pt 0 _ _ rfl rfl
    obtain ⟨x, rfl⟩ : ∃ x, ts = [x] := List.length_eq_one_iff.mp lt
    cases e0
    exact k p T0 H9 (same_before s5 hp) (same_before s5 f0) (s5.trans s9) gp g0
end
/-! ### the greatest common divisor, walked -/
def spGcd : Sp := fun vs H Q _ => ∃ x y : Int, vs = [.int x, .int y] ∧ 1 ≤ x ∧ 1 ≤ y ∧ ∀ d, 1 ≤ d → d ≤ y → d ∣ x → d ∣ y → (∀ e, e ∣ x → e ∣ y → e ∣ d) → Q (.int d) H
section
variable {P : Program} {w : World} {K : PySem.W.Frag} {mg : Str → Option Value} {base : Heap}
theorem ok_common_divisor (T : Tx w K mg) : Prom P w K mg base CX0 1 "common_divisor" s_common_divisor ["one", "other"] spGcd := by
  refine Prom.of T.d_common_divisor sc_common_divisor (fun vs H Q E h => ?_) (fun _ _ _ _ _ _ us hl => match us, hl with | [_, _], _ => rfl) (fun f cdv A outer s H vs Q E hr h => ?_)
  · obtain ⟨x, y, rfl, _⟩ := h
    rfl
  · obtain ⟨x, y, rfl, x0, y0, k⟩ := h
    refine ⟨_, (pss_cons (ps_while PassesOwn.never (pt_cmp (pc_gt (pv 1) pe_int)) (pss_one (ps_par (i := 0) (j := 1) (by rfl) sc_common_divisor.nd rfl rfl (by decide) rfl rfl (pa_cons (pv 1) (pa_cons (pe_op op_mod (pe_callTy call_int1 (by rfl) T.b_int (by decide +kernel) (pa_cons (pv 0) pa_nil)) (pe_callTy call_int1 (by rfl) T.b_int (by decide +kernel) (pa_cons (pv 1) pa_nil))) pa_nil)) (by rfl))))
      (pss_one (ps_ret (pv 0)))), ?_⟩
    refine ⟨fun m σ H1 => H1 = H ∧ ∃ a c : Int, σ = [some (.int a), some (.int c)] ∧ 1 ≤ a ∧ 0 ≤ c ∧ (∀ e, e ∣ a → e ∣ c → e ∣ x ∧ e ∣ y) ∧ (∀ e, e ∣ x → e ∣ y → e ∣ a ∧ e ∣ c) ∧ m = c.toNat, ⟨y.toNat, rfl, x, y, rfl, x0, by omega, (fun e h1 h2 => ⟨h1, h2⟩), (fun e h1 h2 => ⟨h1, h2⟩), rfl⟩, ?_⟩
    rintro m σ H1 ⟨rfl, a, c, rfl, a0, c0, dv, dw, rfl⟩
    refine ⟨_, rfl, _, _, rfl, rfl, _, rfl, ifd (fun hc => ?_) (fun hc => ?_)⟩
    · have hc : 0 < c := hc
      have m0 := Int.emod_nonneg a (show c ≠ 0 by omega)
      have m1 := Int.emod_lt_of_pos a hc
      refine ⟨_, fun _ _ h => h, ?_⟩
      refine ⟨_, rfl, _, rfl, .inl ⟨_, rfl, _, rfl, .inl ⟨_, rfl, _, _, rfl, rfl, hc, _, _, rfl, ?_⟩⟩⟩
      refine ⟨(a % c).toNat, ?_, rfl, c, a % c, rfl, hc, m0, fun e h1 h2 => dv e ?_ h1, fun e h1 h2 => ⟨(dw e h1 h2).2, ?_⟩, rfl⟩
      · show (a % c).toNat < c.toNat
        omega
      · have h3 := Int.dvd_add (Int.dvd_trans h1 (Int.dvd_mul_right c (a / c))) h2
        rwa [Int.mul_ediv_add_emod] at h3
      · obtain ⟨h3, h4⟩ := dw e h1 h2
        rw [show a % c = a - c * (a / c) by have := Int.mul_ediv_add_emod a c; omega]
        exact Int.dvd_sub h3 (Int.dvd_trans h4 (Int.dvd_mul_right c (a / c)))
    · have hc : ¬ 0 < c := hc
      have e0 : c = 0 := by omega
      have dv := dv a (Int.dvd_refl a) (by rw [e0]; exact Int.dvd_zero a)
      exact ⟨_, rfl, k a a0 (Int.le_of_dvd (by omega) dv.2) dv.1 dv.2 (fun e h1 h2 => (dw e h1 h2).1)⟩
end
/-! ### stacks without heads: what comes again from round to round -/
theorem beg_shift {m : Int} (hm : 1 ≤ m) (n k : Int) : beg (n + m * k) m = beg n m + k := by
  unfold beg
  rw [show n + m * k + m - 1 = (n + m - 1) + m * k by omega, Int.add_mul_ediv_left _ _ (show m ≠ 0 by omega)]
theorem gr_shift {b : Int} {a : Wr} (ok : a.ok) (nh : isHead a = false) : ∃ C, ∀ n k : Int, a.gr b (n + a.use * k) = a.gr b n + C * k := by
  cases a with
  | told c => cases nh
  | whole c => cases nh
  | plus c =>
    refine ⟨1, fun n k => ?_⟩
    simp only [Wr.gr, Wr.use]
    omega
  | pieces m c =>
    have hm : 1 ≤ m := ok.1
    refine ⟨m + c + figF b m, fun n k => ?_⟩
    show (n + m * k) / m * (m + c + figF b m) + (if 0 < (n + m * k) % m then (n + m * k) % m + c + figF b ((n + m * k) % m) else 0) + c + 1 = n / m * (m + c + figF b m) + (if 0 < n % m then n % m + c + figF b (n % m) else 0) + c + 1 + (m + c + figF b m) * k
    rw [Int.add_mul_ediv_left _ _ (show m ≠ 0 by omega), Int.add_mul_emod_self_left]
    generalize m + c + figF b m = W
    generalize (if 0 < n % m then n % m + c + figF b (n % m) else 0) = R
    rw [Int.add_mul, Int.mul_comm k W]
    omega
  | cut m c =>
    have hm : 1 ≤ m := ok.1
    refine ⟨m + c, fun n k => ?_⟩
    show n + m * k + beg (n + m * k) m * c = n + beg n m * c + (m + c) * k
    rw [beg_shift hm, Int.add_mul, Int.add_mul, Int.mul_comm k c]
    omega
  | coded m c =>
    have hm : 1 ≤ m := ok.1
    refine ⟨c * c, fun n k => ?_⟩
    show beg (n + m * c * k) m * c = beg n m * c + c * c * k
    rw [Int.mul_assoc, beg_shift hm, Int.add_mul, Int.mul_assoc, Int.mul_comm k c]
    have e : c * (c * k) = c * c * k := (Int.mul_assoc c c k).symm
    omega
  | filled m =>
    have hm : 1 ≤ m := ok.1
    refine ⟨m, fun n k => ?_⟩
    show beg (n + m * k) m * m = beg n m * m + m * k
    rw [beg_shift hm, Int.add_mul, Int.mul_comm k m]
theorem fine_foldl (ws : List Wr) : ∀ p : Int, ws.foldl stepF p = p * ws.foldl stepF 1 := by
  induction ws with
  | nil => intro p; exact (Int.mul_one p).symm
  | cons a ws ih =>
    intro p
    show ws.foldl stepF (stepF p a) = p * ws.foldl stepF (stepF 1 a)
    rw [ih (stepF p a), ih (stepF 1 a), step_use, step_use, Int.one_mul, Int.mul_assoc]
theorem fine_cons (a : Wr) (ws : List Wr) : fineL (a :: ws) = a.use * fineL ws := by
  show ws.foldl stepF (stepF 1 a) = _
  rw [fine_foldl, step_use, Int.one_mul]
  rfl
/-- a round on, a stack without heads has grown by the same -/
theorem grS_shift {b : Int} : ∀ (ws : List Wr), (∀ a ∈ ws, a.ok) → NoHead ws → ∃ C, ∀ n k : Int, grS b ws (n + fineL ws * k) = grS b ws n + C * k
  | [], _, _ => ⟨1, fun n k => by show n + 1 * k = n + 1 * k; rfl⟩
  | a :: ws, ok, nh => by
    obtain ⟨C1, h1⟩ := gr_shift (b := b) (ok a (List.mem_cons_self ..)) (nh a (List.mem_cons_self ..))
    obtain ⟨C2, h2⟩ := grS_shift ws (fun x hx => ok x (List.mem_cons_of_mem _ hx)) (fun x hx => nh x (List.mem_cons_of_mem _ hx))
    refine ⟨C2 * C1, fun n k => ?_⟩
    show grS b ws (a.gr b (n + fineL (a :: ws) * k)) = grS b ws (a.gr b n) + C2 * C1 * k
    rw [fine_cons, Int.mul_assoc, h1, show C1 * (fineL ws * k) = fineL ws * (C1 * k) by rw [← Int.mul_assoc, ← Int.mul_assoc, Int.mul_comm C1], h2, Int.mul_assoc]
/-- by how much the first one is longer -/
noncomputable def leadF (b1 : Int) (ws1 : List Wr) (b2 : Int) (ws2 : List Wr) (n : Int) : Int := grS b1 ws1 n - grS b2 ws2 n
noncomputable def lcmF (ws1 ws2 : List Wr) : Int := (Int.lcm (fineL ws1) (fineL ws2) : Nat)
theorem lead_shift {b1 b2 : Int} {ws1 ws2 : List Wr} (ok1 : ∀ a ∈ ws1, a.ok) (ok2 : ∀ a ∈ ws2, a.ok) (nh1 : NoHead ws1) (nh2 : NoHead ws2) : ∃ G, ∀ n k : Int, leadF b1 ws1 b2 ws2 (n + lcmF ws1 ws2 * k) = leadF b1 ws1 b2 ws2 n + G * k := by
  obtain ⟨C1, h1⟩ := grS_shift (b := b1) ws1 ok1 nh1
  obtain ⟨C2, h2⟩ := grS_shift (b := b2) ws2 ok2 nh2
  obtain ⟨x, hx⟩ : fineL ws1 ∣ lcmF ws1 ws2 := Int.dvd_lcm_left ..
  obtain ⟨y, hy⟩ : fineL ws2 ∣ lcmF ws1 ws2 := Int.dvd_lcm_right ..
  refine ⟨C1 * x - C2 * y, fun n k => ?_⟩
  unfold leadF
  have e1 : grS b1 ws1 (n + lcmF ws1 ws2 * k) = grS b1 ws1 n + C1 * x * k := by rw [hx, Int.mul_assoc, h1, Int.mul_assoc]
  have e2 : grS b2 ws2 (n + lcmF ws1 ws2 * k) = grS b2 ws2 n + C2 * y * k := by rw [hy, Int.mul_assoc, h2, Int.mul_assoc]
  rw [e1, e2, Int.sub_mul]
  omega
theorem lcm_value {x y d : Int} (x1 : 1 ≤ x) (y1 : 1 ≤ y) (d1 : 1 ≤ d) (h1 : d ∣ x) (h2 : d ∣ y) (h3 : ∀ e, e ∣ x → e ∣ y → e ∣ d) : x / d * y = ((Int.lcm x y : Nat) : Int) := by
  have e : d = ((Int.gcd x y : Nat) : Int) := by
    have g := h3 _ (Int.gcd_dvd_left ..) (Int.gcd_dvd_right ..)
    have g2 : d ∣ ((Int.gcd x y : Nat) : Int) := Int.dvd_coe_gcd h1 h2
    have gp : 0 < Int.gcd x y := Int.gcd_pos_of_ne_zero_left _ (by omega)
    have a := Int.le_of_dvd (by omega) g
    have b := Int.le_of_dvd (by omega) g2
    omega
  obtain ⟨X, rfl⟩ := Int.eq_ofNat_of_zero_le (show 0 ≤ x by omega)
  obtain ⟨Y, rfl⟩ := Int.eq_ofNat_of_zero_le (show 0 ≤ y by omega)
  rw [e]
  show ((X : Int) / ((Nat.gcd X Y : Nat) : Int)) * (Y : Int) = ((Nat.lcm X Y : Nat) : Int)
  rw [← Int.natCast_ediv, ← Int.natCast_mul]
  congr 1
  unfold Nat.lcm
  exact Nat.div_mul_right_comm (Nat.gcd_dvd_left X Y) Y
theorem fine_one {ws : List Wr} (ok : ∀ a ∈ ws, a.ok) : 1 ≤ fineL ws := fine_pos (ws := ws) ok (p := 1) (by decide)
theorem lcm_pos {ws1 ws2 : List Wr} (ok1 : ∀ a ∈ ws1, a.ok) (ok2 : ∀ a ∈ ws2, a.ok) : 1 ≤ lcmF ws1 ws2 := by
  have h1 := fine_one ok1
  have h2 := fine_one ok2
  unfold lcmF
  have : 0 < Int.lcm (fineL ws1) (fineL ws2) := by
    rw [Int.lcm_eq_natAbs_lcm_natAbs]
    exact Nat.lcm_pos (by omega) (by omega)
  omega
/-! ### comparing: rounds to a lead that counts -/
def roO (l g : Int) : Option Int := if l ≠ 0 then some 0 else if g = 0 then none else some 1
def roL (l g : Int) : Option Int := if 0 < l then some 0 else if g ≤ 0 then none else some (-l / g + 1)
def oV : Option Int → V
  | none => .non
  | some i => .int i
def spRo (R : Int → Int → Option Int) : Sp := fun vs H Q _ => ∃ l g : Int, vs = [.int l, .int g] ∧ l.natAbs < 2 ^ 600 ∧ g.natAbs < 2 ^ 600 ∧ Q (oV (R l g)) H
/-- R tells the first round whose lead counts -/
structure RoOk (R : Int → Int → Option Int) (C : Int → Prop) : Prop where
  some_ : ∀ l g r, R l g = some r → 0 ≤ r ∧ C (l + g * r) ∧ (∀ k : Int, 0 ≤ k → k < r → ¬ C (l + g * k)) ∧ r ≤ l.natAbs + 1
  none_ : ∀ l g, R l g = none → ∀ k : Int, 0 ≤ k → ¬ C (l + g * k)
theorem roO_ok : RoOk roO (fun l => l ≠ 0) where
  some_ := fun l g r h => by
    unfold roO at h
    by_cases c : l ≠ 0
    · rw [if_pos c] at h
      obtain rfl := Option.some.inj h
      exact ⟨Int.le_refl _, by rw [Int.mul_zero, Int.add_zero]; exact c, fun k h1 h2 => absurd h1 (by omega), by omega⟩
    · rw [if_neg c] at h
      have l0 : l = 0 := by omega
      by_cases d : g = 0
      · rw [if_pos d] at h
        cases h
      · rw [if_neg d] at h
        obtain rfl := Option.some.inj h
        refine ⟨by decide, by rw [Int.mul_one]; omega, fun k h1 h2 => ?_, by omega⟩
        have : k = 0 := by omega
        rw [this, Int.mul_zero]
        omega
  none_ := fun l g h k _ => by
    unfold roO at h
    by_cases c : l ≠ 0
    · rw [if_pos c] at h
      cases h
    · rw [if_neg c] at h
      by_cases d : g = 0
      · rw [d, Int.zero_mul]
        omega
      · rw [if_neg d] at h
        cases h
theorem roL_ok : RoOk roL (fun l => 0 < l) where
  some_ := fun l g r h => by
    unfold roL at h
    by_cases c : 0 < l
    · rw [if_pos c] at h
      obtain rfl := Option.some.inj h
      exact ⟨Int.le_refl _, by rw [Int.mul_zero, Int.add_zero]; exact c, fun k h1 h2 => absurd h1 (by omega), by omega⟩
    · rw [if_neg c] at h
      by_cases d : g ≤ 0
      · rw [if_pos d] at h
        cases h
      · rw [if_neg d] at h
        obtain rfl := Option.some.inj h
        have g0 : 0 < g := by omega
        have q0 : 0 ≤ -l / g := Int.ediv_nonneg (by omega) (by omega)
        have e := Int.mul_ediv_add_emod (-l) g
        have m0 := Int.emod_nonneg (-l) (show g ≠ 0 by omega)
        have m1 := Int.emod_lt_of_pos (-l) g0
        have up_ : -l / g ≤ -l := Int.ediv_le_self _ (by omega)
        refine ⟨by omega, ?_, fun k h1 h2 => ?_, by omega⟩
        · rw [Int.mul_add, Int.mul_one]
          omega
        · have h3 : k ≤ -l / g := by omega
          have h4 := Int.mul_le_mul_of_nonneg_left h3 (show 0 ≤ g by omega)
          omega
  none_ := fun l g h k k0 => by
    unfold roL at h
    by_cases c : 0 < l
    · rw [if_pos c] at h
      cases h
    · rw [if_neg c] at h
      by_cases d : g ≤ 0
      · have h4 := Int.mul_le_mul_of_nonneg_right d k0
        rw [Int.zero_mul] at h4
        omega
      · rw [if_neg d] at h
        cases h
/-- v is the first place whose lead counts, None if there is none -/
def IsFst (C : Int → Prop) (f : Int → Int) (v : V) : Prop := (v = .non ∧ ∀ n : Int, 0 ≤ n → ¬ C (f n)) ∨ ∃ n : Int, v = .int n ∧ 0 ≤ n ∧ C (f n) ∧ ∀ m : Int, 0 ≤ m → m < n → ¬ C (f m)
theorem IsFst.uniq {C : Int → Prop} {f : Int → Int} {v u : V} (h : IsFst C f v) (g : IsFst C f u) : v = u := by
  rcases h with ⟨rfl, h⟩ | ⟨n, rfl, n0, h1, h2⟩
  · rcases g with ⟨rfl, _⟩ | ⟨m, rfl, m0, g1, _⟩
    · rfl
    · exact absurd g1 (h m m0)
  · rcases g with ⟨rfl, g⟩ | ⟨m, rfl, m0, g1, g2⟩
    · exact absurd h1 (g n n0)
    · rcases Int.lt_trichotomy n m with c | c | c
      · exact absurd h1 (g2 n n0 c)
      · rw [c]
      · exact absurd g1 (h2 m m0 c)
/-- the places found in one round -/
def foundR (R : Int → Int → Option Int) (f : Int → Int) (g : Int) (M : Nat) (i : Nat) : List Int := (List.range i).filterMap fun (p : Nat) => (R (f (p : Int)) g).map fun r => (p : Int) + r * (M : Int)
theorem foundR_succ (R : Int → Int → Option Int) (f : Int → Int) (g : Int) (M i : Nat) : foundR R f g M (i + 1) = foundR R f g M i ++ ((R (f i) g).map fun r => (i : Int) + r * M).toList := by
  unfold foundR
  rw [List.range_succ, List.filterMap_append]
  cases e : R (f (i : Int)) g <;> simp [e]
theorem foundR_len (R : Int → Int → Option Int) (f : Int → Int) (g : Int) (M : Nat) (i : Nat) : (foundR R f g M i).length ≤ i := by
  unfold foundR
  exact Nat.le_trans (List.length_filterMap_le _ _) (by rw [List.length_range]; exact Nat.le_refl _)
theorem foundR_fst {R : Int → Int → Option Int} {C : Int → Prop} (ok : RoOk R C) {f : Int → Int} {g : Int} {M : Nat} (hM : 1 ≤ M) (hs : ∀ n k : Int, f (n + M * k) = f n + g * k) {n : Int} (hn : n ∈ foundR R f g M M) (hl : ∀ x ∈ foundR R f g M M, n ≤ x) : IsFst C f (.int n) := by
  unfold foundR at hn
  obtain ⟨p, hp, e⟩ := List.mem_filterMap.mp hn
  obtain ⟨r, hr, e2⟩ := Option.map_eq_some_iff.mp e
  have pM : p < M := List.mem_range.mp hp
  obtain ⟨r0, c1, c2, _⟩ := ok.some_ _ _ _ hr
  have m0 : (0 : Int) ≤ r * M := Int.mul_nonneg r0 (by omega)
  have en : n = p + M * r := by rw [Int.mul_comm]; exact e2.symm
  refine .inr ⟨n, rfl, by omega, by rw [en, hs]; exact c1, fun m m1 m2 hc => ?_⟩
  -- m lies in another place's row
  have e3 := Int.mul_ediv_add_emod m M
  have h0 := Int.emod_nonneg m (show (M : Int) ≠ 0 by omega)
  have h1 := Int.emod_lt_of_pos m (show (0 : Int) < M by omega)
  have q0 : 0 ≤ m / M := Int.ediv_nonneg m1 (by omega)
  obtain ⟨s, es⟩ : ∃ s : Nat, m % M = s := ⟨(m % M).toNat, by omega⟩
  rw [es] at e3 h1
  have em : f m = f s + g * (m / M) := by
    rw [← hs]
    congr 1
    omega
  rw [em] at hc
  cases hR : R (f s) g with
  | none => exact ok.none_ _ _ hR _ q0 hc
  | some r' =>
    obtain ⟨r0', _, c2', _⟩ := ok.some_ _ _ _ hR
    have hmem : (s : Int) + r' * M ∈ foundR R f g M M := by
      unfold foundR
      exact List.mem_filterMap.mpr ⟨s, List.mem_range.mpr (by omega), by rw [hR]; rfl⟩
    have hle := hl _ hmem
    by_cases lt : m / M < r'
    · exact c2' _ q0 lt hc
    · have h4 := Int.mul_le_mul_of_nonneg_right (show r' ≤ m / M by omega) (show (0 : Int) ≤ M by omega)
      rw [Int.mul_comm (m / M)] at h4
      omega
theorem foundR_none {R : Int → Int → Option Int} {C : Int → Prop} (ok : RoOk R C) {f : Int → Int} {g : Int} {M : Nat} (hM : 1 ≤ M) (hs : ∀ n k : Int, f (n + M * k) = f n + g * k) (hn : foundR R f g M M = []) : IsFst C f .non := by
  refine .inl ⟨rfl, fun m m1 hc => ?_⟩
  have e3 := Int.mul_ediv_add_emod m M
  have h0 := Int.emod_nonneg m (show (M : Int) ≠ 0 by omega)
  have h1 := Int.emod_lt_of_pos m (show (0 : Int) < M by omega)
  have q0 : 0 ≤ m / M := Int.ediv_nonneg m1 (by omega)
  obtain ⟨s, es⟩ : ∃ s : Nat, m % M = s := ⟨(m % M).toNat, by omega⟩
  rw [es] at e3 h1
  have em : f m = f s + g * (m / M) := by
    rw [← hs]
    congr 1
    omega
  rw [em] at hc
  cases hR : R (f s) g with
  | none => exact ok.none_ _ _ hR _ q0 hc
  | some r' =>
    have hmem : (s : Int) + r' * M ∈ foundR R f g M M := by
      unfold foundR
      exact List.mem_filterMap.mpr ⟨s, List.mem_range.mpr (by omega), by rw [hR]; rfl⟩
    rw [hn] at hmem
    cases hmem
/-- nothing that is found lies far -/
theorem foundR_near {R : Int → Int → Option Int} {C : Int → Prop} (ok : RoOk R C) {f : Int → Int} {g : Int} {M i : Nat} {B : Nat} (hM : M ≤ 120) (iM : i ≤ M) (hB : ∀ p : Nat, p < i → (f p).natAbs ≤ B) : ∀ x ∈ foundR R f g M i, 0 ≤ x ∧ x ≤ 120 * ((B : Int) + 2) := fun x hx => by
  unfold foundR at hx
  obtain ⟨p, hp, e⟩ := List.mem_filterMap.mp hx
  obtain ⟨r, hr, rfl⟩ := Option.map_eq_some_iff.mp e
  have pi : p < i := List.mem_range.mp hp
  obtain ⟨r0, _, _, r1⟩ := ok.some_ _ _ _ hr
  have hb := hB p pi
  have m0 : (0 : Int) ≤ r * M := Int.mul_nonneg r0 (by omega)
  have m1 : r * (M : Int) ≤ ((B : Int) + 1) * 120 := Int.mul_le_mul (by omega) (by omega) (by omega) (by omega)
  exact ⟨by omega, by omega⟩
/-! ### comparing: how fine both are together, sizes and leads of a round -/
def spShared (K : PySem.W.Frag) : Sp := fun vs H Q _ => ∃ (q1 q2 : Addr) (b1 b2 : Int) (ws1 ws2 : List Wr), vs = [.ref q1, .ref q2] ∧ StkAt K H q1 b1 ws1 ∧ StkAt K H q2 b2 ws2 ∧ StkOk b1 ws1 ∧ StkOk b2 ws2 ∧ Q (.int (lcmF ws1 ws2)) H
def spBoth (K : PySem.W.Frag) : Sp := fun vs H Q _ => ∃ (q1 q2 : Addr) (b1 b2 : Int) (ws1 ws2 : List Wr), vs = [.ref q1, .ref q2] ∧ StkAt K H q1 b1 ws1 ∧ StkAt K H q2 b2 ws2 ∧ StkOk b1 ws1 ∧ StkOk b2 ws2 ∧ lcmF ws1 ws2 ≤ 120 ∧ Q .non H
noncomputable def sizesL (b : Int) (ws : List Wr) (n : Int) (m : Nat) : List Int := (List.range m).map fun (i : Nat) => grS b ws (n + (i : Int))
def spSizesA (K : PySem.W.Frag) : Sp := fun vs H Q _ => ∃ (q : Addr) (b n : Int) (m : Nat) (ws : List Wr), vs = [.ref q, .int n, .int m] ∧ StkAt K H q b ws ∧ StkOk b ws ∧ NoHead ws ∧ 0 ≤ n ∧ n < 2 ^ 400 ∧ m ≤ 200 ∧ ∀ l H', H l = none → Same H H' → H' l = some (.lst ((sizesL b ws n m).map V.int)) → Q (.ref l) H'
noncomputable def leadsL (b1 : Int) (ws1 : List Wr) (b2 : Int) (ws2 : List Wr) (n : Int) (m : Nat) : List Int := (List.range m).map fun (i : Nat) => leadF b1 ws1 b2 ws2 (n + (i : Int))
def spLeads (K : PySem.W.Frag) : Sp := fun vs H Q _ => ∃ (q1 q2 : Addr) (b1 b2 n : Int) (ws1 ws2 : List Wr), vs = [.ref q1, .ref q2, .int n] ∧ StkAt K H q1 b1 ws1 ∧ StkAt K H q2 b2 ws2 ∧ StkOk b1 ws1 ∧ StkOk b2 ws2 ∧ NoHead ws1 ∧ NoHead ws2 ∧ lcmF ws1 ws2 ≤ 120 ∧ 0 ≤ n ∧ n < 2 ^ 400 ∧
  ∀ t l H', H t = none → H l = none → Same H H' → H' t = some (.tup [.ref l, .int (leadF b1 ws1 b2 ws2 (n + lcmF ws1 ws2) - leadF b1 ws1 b2 ws2 n)]) → H' l = some (.lst ((leadsL b1 ws1 b2 ws2 n (lcmF ws1 ws2).toNat).map V.int)) → Q (.ref t) H'
theorem cut_last {xs : List V} {n : Nat} (h : xs.length = n + 1) : cutV xs none (some (-1)) = xs.take n := by
  unfold cutV
  rw [HT.sIx_none]
  have e : HT.sIx xs.length xs.length (some (-1)) = n := by
    unfold HT.sIx
    simp only []
    rw [h]
    split <;> omega
  rw [e]
  simp
section
variable {P : Program} {w : World} {K : PySem.W.Frag} {mg : Str → Option Value} {base : Heap}
theorem ok_shared_fineness (T : Tx w K mg) : Prom P w K mg base CX0 2 "shared_fineness" s_shared_fineness ["stack", "other_stack"] (spShared K) := by
  refine Prom.of T.d_shared_fineness sc_shared_fineness (fun vs H Q E h => ?_) (fun _ _ _ _ _ _ us hl => match us, hl with | [_, _], _ => rfl) (fun f cdv A outer s H vs Q E hr h => ?_)
  · obtain ⟨q1, q2, b1, b2, ws1, ws2, rfl, _⟩ := h
    rfl
  · obtain ⟨q1, q2, b1, b2, ws1, ws2, rfl, h1, h2, so1, so2, k⟩ := h
    obtain ⟨dx, t, xs, g1, g2, g3⟩ := id h1
    obtain ⟨dy, u, ys, f1, f2, f3⟩ := id h2
    have p1 := fine_one so1.ok
    have p2 := fine_one so2.ok
    have l1 := so1.fine
    have l2 := so2.fine
    refine ⟨_, (pss_one (ps_ret (pe_op op_mul (pe_op op_fdiv (pe_fld (pv 0) rfl) (pe_callP (ok_common_divisor T) (hr.mono (by decide)) (by rfl) pass0 (pa_cons (pe_fld (pv 0) rfl) (pa_cons (pe_fld (pv 1) rfl) pa_nil)))) (pe_fld (pv 1) rfl)))), ?_⟩
    refine ⟨_, rfl, q1, _, dx, _, _, rfl, g1, T.cl_Stack, T.na_Stack_fineness, rfl, _, rfl, q1, _, dx, _, _, rfl, g1, T.cl_Stack, T.na_Stack_fineness, rfl, _, rfl, q2, _, dy, _, _, rfl, f1, T.cl_Stack, T.na_Stack_fineness, rfl, fineL ws1, fineL ws2, rfl, p1, p2, fun d d1 dle dvx dvy dg => ?_⟩
    refine ⟨_, _, rfl, rfl, ⟨by omega, by omega⟩, ?_⟩
    have q0 : 0 ≤ fineL ws1 / d := Int.ediv_nonneg (by omega) (by omega)
    have q1' : fineL ws1 / d ≤ fineL ws1 := Int.ediv_le_self _ (by omega)
    refine ⟨_, rfl, q2, _, dy, _, _, rfl, f1, T.cl_Stack, T.na_Stack_fineness, rfl, _, _, rfl, rfl, .inl ⟨by omega, by omega⟩, ?_⟩
    have e := lcm_value p1 p2 d1 dvx dvy dg
    unfold lcmF at k
    rw [← e] at k
    exact k
theorem ok_check_both (T : Tx w K mg) : Prom P w K mg base CX0 3 "check_both" s_check_both ["stack", "other_stack"] (spBoth K) := by
  refine Prom.of T.d_check_both sc_check_both (fun vs H Q E h => ?_) (fun _ _ _ _ _ _ us hl => match us, hl with | [_, _], _ => rfl) (fun f cdv A outer s H vs Q E hr h => ?_)
  · obtain ⟨q1, q2, b1, b2, ws1, ws2, rfl, _⟩ := h
    rfl
  · obtain ⟨q1, q2, b1, b2, ws1, ws2, rfl, h1, h2, so1, so2, l120, k⟩ := h
    refine ⟨_, (pss_cons (ps_expr (pe_callP (ok_check_stack T) (hr.mono (by decide)) (by rfl) pass0 (pa_cons (pv 0) pa_nil)))
      (pss_cons (ps_expr (pe_callP (ok_check_stack T) (hr.mono (by decide)) (by rfl) pass0 (pa_cons (pv 1) pa_nil)))
      (pss_one (ps_if (pt_cmp (pc_gt (pe_callP (ok_shared_fineness T) (hr.mono (by decide)) (by rfl) pass0 (pa_cons (pv 0) (pa_cons (pv 1) pa_nil))) (pe_gint T.c_MOST_FINENESS))) (pss_one ps_never) pss_nil)))), ?_⟩
    exact ⟨_, rfl, q1, b1, ws1, rfl, h1, _, rfl, q2, b2, ws2, rfl, h2, _, rfl, _, rfl, q1, q2, b1, b2, ws1, ws2, rfl, h1, h2, so1, so2, _, _, rfl, rfl, _, rfl, ifd_neg (show ¬ lcmF ws1 ws2 > 120 by omega) k⟩
theorem ok_sizes_along (T : Tx w K mg) : Prom P w K mg base CX0 5 "sizes_along" s_sizes_along ["stack", "first", "many"] (spSizesA K) := by
  refine Prom.of T.d_sizes_along sc_sizes_along (fun vs H Q E h => ?_) (fun _ _ _ _ _ _ us hl => match us, hl with | [_, _, _], _ => rfl) (fun f cdv A outer s H vs Q E hr h => ?_)
  · obtain ⟨q, b, n, m, ws, rfl, _⟩ := h
    rfl
  · obtain ⟨q, b, n, m, ws, rfl, h1, so, nh, n0, n1, m1, k⟩ := h
    obtain ⟨dx, t, xs, g1, g2, g3⟩ := id h1
    refine ⟨_, (pss_cons (ps_set (i := 3) sc_sizes_along.nd rfl (Or.inl rfl) (pe_listA (by rfl) (by rfl) T.b_list (prg_2 (by rfl) T.b_range (pv 1) (pe_op op_add (pv 1) (pv 2)))))
      (pss_cons (ps_for PassesOwn.never (by rfl) (pi_tup (pe_fld (pv 0) rfl)) (pg_name (i := 4) sc_sizes_along.nd rfl (Or.inr rfl)) (pss_one (ps_if (pt_cmpR op_in_seq (pe_fld (pv 4) rfl) (pe_tup (pa_cons pe_str (pa_cons pe_str pa_nil))) (by rfl)) (pss_cons (ps_set (i := 5) sc_sizes_along.nd rfl (Or.inr rfl) (pe_op op_sub (pe_methP (ok_Wrap_grown T) (hr.mono (by decide)) pass0 (pv 4) (pa_cons (pe_ix ix_list (pv 3) pe_int (fun _ _ => rfl)) (pa_cons (pe_fld (pv 0) rfl) pa_nil))) (pe_ix ix_list (pv 3) pe_int (fun _ _ => rfl))))
      (pss_one (ps_setLc (i := 3) (own := [("size", 6)]) (g := (gName 6)) (tt := tYes) (by rfl) sc_sizes_along.nd rfl rfl (sw_true rfl rfl rfl (by decide +kernel)) (pi_list (pv 3)) (blkOk_by (own := [("size", 6)]) (N := ["stack", "first", "many", "sizes", "wrap", "added", "size"]) (sc := defScope s_sizes_along) (by decide +kernel)) (fun _ _ _ _ _ => (pg_name (i := 6) sc_sizes_along.nd rfl (Or.inl rfl))) (fun _ _ _ _ _ => pts_nil) (fun _ _ _ _ _ => (pe_op op_add (pv 6) (pv 5)))))) (pss_one (ps_setLc (i := 3) (own := [("size", 6)]) (g := (gName 6)) (tt := tYes) (by rfl) sc_sizes_along.nd rfl rfl (sw_true rfl rfl rfl (by decide +kernel)) (pi_list (pv 3)) (blkOk_by (own := [("size", 6)]) (N := ["stack", "first", "many", "sizes", "wrap", "added", "size"]) (sc := defScope s_sizes_along) (by decide +kernel)) (fun _ _ _ _ _ => (pg_name (i := 6) sc_sizes_along.nd rfl (Or.inl rfl))) (fun _ _ _ _ _ => pts_nil) (fun _ _ _ _ _ => (show PE _ _ (tMeth (He.ga K "Wrap") "grown" _ [] _ _ _) from (pe_methP (ok_Wrap_grown T) (hr.mono (by decide)) pass0 (pv 4) (pa_cons (pv 6) (pa_cons (show PE _ _ (tFld K _ _) from (pe_fld (pv 0) rfl)) pa_nil))))))))))
      (pss_one (ps_ret (pv 3))))), ?_⟩
    have hlx := g3.len
    have l6 := so.len
    refine ⟨_, rfl, _, rfl, _, rfl, _, _, rfl, rfl, _, _, rfl, rfl, by omega, fun L hL => gn ?_⟩
    have s1 := up (o := .lst (rgV n (n + (m : Int)))) hL
    have hL1 : (upd H L (.lst (rgV n (n + (m : Int))))) L = some (.lst ((sizesL b (ws.take 0) n m).map V.int)) := by
      rw [upd_same]
      congr 2
      unfold rgV sizesL
      rw [List.map_map, show (n + (m : Int) - n).toNat = m by omega]
      rfl
    refine hp_eq (upd H L (.lst (rgV n (n + (m : Int))))) rfl ?_
    generalize (upd H L (.lst (rgV n (n + (m : Int))))) = H1 at s1 hL1 ⊢
    refine st_eq [some (.ref q), some (.int n), some (.int (m : Nat)), some (.ref L), none, none, none] rfl ?_
    refine ⟨_, rfl, q, _, dx, _, _, rfl, s1 _ _ g1, T.cl_Stack, T.na_Stack_wraps, rfl, t, rfl, ⟨_, SqT.of (s1 _ _ g2)⟩, for_it (walk_tup (K := K) (a := t) (xs := xs)) (fun i σ G => Same H G ∧ ∃ (l : Addr) (v1 v2 : Option V), H l = none ∧ G l = some (.lst ((sizesL b (ws.take i) n m).map V.int)) ∧ σ = [some (.ref q), some (.int n), some (.int (m : Nat)), some (.ref l), v1, v2, none]) ⟨s1, L, none, none, hL, hL1, rfl⟩ (fun i σ G _ h => SqT.of (h.1 _ _ g2)) ?_ ?_⟩
    · rintro i x σ G9 G1 hi ⟨sh, l, v1, v2, nl, hl, rfl⟩ ⟨rfl, hx⟩
      obtain ⟨r, a, rfl, hr2, hw1⟩ := (g3.same sh).get hx
      have hm := List.mem_of_getElem? hr2
      have hok := so.ok a hm
      obtain ⟨dx2, p, h1, h2⟩ := id hw1
      have et : ∀ z : Int, grS b (ws.take (i + 1)) z = a.gr b (grS b (ws.take i) z) := fun z => by
        unfold grS
        rw [List.take_succ, hr2, List.foldl_append]
        rfl
      refine gn ?_
      refine ⟨_, rfl, r, _, dx2, _, _, rfl, h1, T.cl_Wrap, T.na_Wrap_kind, rfl, (by show 2 ≤ sizeLine; decide), fun u hu => ?_⟩
      have hin : inV (.str a.kind) [V.str "told", V.str "whole"] = false := by
        have := nh a hm
        cases a with
        | told c => cases this
        | whole c => cases this
        | _ => kernel_rfl
      have s2 := up (o := .tup [V.str "told", V.str "whole"]) hu
      refine ⟨u, _, rfl, .inr (SqT.of upd_same), rfl, rfl, _, rfl, ?_⟩
      rw [if_neg (show ¬ (false = true) by decide), hin]
      refine iteF ?_
      have sh2 := sh.trans s2
      have hl2 := s2 _ _ hl
      generalize (upd G1 u (.tup [V.str "told", V.str "whole"])) = G2 at s2 sh2 hl2 ⊢
      refine ⟨_, rfl, l, rfl, ⟨_, SqL.of hl2⟩, fun D hD => ?_⟩
      refine lc_list (K := K) (a := l) (xs := (sizesL b (ws.take i) n m).map V.int) (Pv := fun j G => Same G2 G ∧ G D = some (.lst (((sizesL b (ws.take (i + 1)) n m).take j).map V.int))) ⟨up hD, upd_same⟩ (fun j G _ h => SqL.of (h.1 _ _ hl2)) ?_ ?_
      · rintro j x G hj ⟨hs, hd⟩
        obtain ⟨y, hy, rfl⟩ := int_at hj
        have jl : j < m := by
          have := (List.getElem?_eq_some_iff.mp hy).1
          unfold sizesL at this
          rw [List.length_map, List.length_range] at this
          exact this
        have ey : y = grS b (ws.take i) (n + (j : Int)) := by
          unfold sizesL at hy
          rw [List.getElem?_map, List.getElem?_range jl] at hy
          exact (Option.some.inj hy).symm
        subst ey
        have hlt : (ws.take i).length ≤ 6 := by
          rw [List.length_take]
          omega
        have bd := grS_pow so.b0 (ws.take i) (fun z hz => so.ok z (List.mem_of_mem_take hz)) (show 12 ≤ 401 by decide) (show 0 ≤ n + (j : Int) by omega) (show n + (j : Int) < 2 ^ 401 by
          have : (2 : Int) ^ 401 = 2 ^ 400 * 2 := by decide
          have : (200 : Int) < 2 ^ 400 := by decide
          omega)
        have bd2 : grS b (ws.take i) (n + (j : Int)) < 2 ^ 3000 := Int.lt_of_lt_of_le bd.2 (pow_mono (by decide) (by omega))
        have s3 := s2.trans hs
        refine ⟨rfl, _, rfl, r, dx2, _, rfl, s3 _ _ h1, rfl, _, rfl, _, rfl, q, _, dx, _, _, rfl, (sh2.trans hs) _ _ g1, T.cl_Stack, T.na_Stack_base, rfl, a, r, _, b, rfl, hw1.same s3, hok, so.b0, so.b1, bd.1, bd2, ?_⟩
        refine ⟨_, hd, ?_, fun z o e => ?_, ?_⟩
        · rw [List.length_map, List.length_take, sizeLine_eq]
          have : (sizesL b (ws.take (i + 1)) n m).length = m := by unfold sizesL; rw [List.length_map, List.length_range]
          omega
        · rw [upd_ne (ne_of_none e hD)]
          exact hs _ _ e
        · have hz : (sizesL b (ws.take (i + 1)) n m)[j]? = some (a.gr b (grS b (ws.take i) (n + (j : Int)))) := by
            unfold sizesL
            rw [List.getElem?_map, List.getElem?_range jl]
            exact congrArg some (et _)
          rw [upd_same]
          generalize sizesL b (ws.take (i + 1)) n m = zs at hz ⊢
          rw [List.take_succ, hz, List.map_append]
          rfl
      · rintro G ⟨hs, hd⟩
        have e1 : ((sizesL b (ws.take i) n m).map V.int).length = (sizesL b (ws.take (i + 1)) n m).length := by
          unfold sizesL
          rw [List.length_map, List.length_map, List.length_map]
        rw [e1, List.take_length] at hd
        exact ⟨sh2.trans hs, D, _, _, same_before sh2 hD, hd, rfl⟩
    · rintro σ G ⟨sh, l, v1, v2, nl, hl, rfl⟩
      rw [hlx, List.take_length] at hl
      exact ⟨_, rfl, k l G nl sh hl⟩
theorem ok_leads_along (T : Tx w K mg) : Prom P w K mg base CX0 6 "leads_along" s_leads_along ["stack", "other_stack", "first"] (spLeads K) := by
  refine Prom.of T.d_leads_along sc_leads_along (fun vs H Q E h => ?_) (fun _ _ _ _ _ _ us hl => match us, hl with | [_, _, _], _ => rfl) (fun f cdv A outer s H vs Q E hr h => ?_)
  · obtain ⟨q1, q2, b1, b2, n, ws1, ws2, rfl, _⟩ := h
    rfl
  · obtain ⟨q1, q2, b1, b2, n, ws1, ws2, rfl, h1, h2, so1, so2, nh1, nh2, l120, n0, n1, k⟩ := h
    refine ⟨_, (pss_cons (ps_set (i := 3) sc_leads_along.nd rfl (Or.inl rfl) (pe_op op_add (pe_callP (ok_shared_fineness T) (hr.mono (by decide)) (by rfl) pass0 (pa_cons (pv 0) (pa_cons (pv 1) pa_nil))) pe_int))
      (pss_cons (ps_par (i := 4) (j := 5) (by rfl) sc_leads_along.nd rfl rfl (by decide) rfl rfl (pa_cons (pe_callP (ok_sizes_along T) (hr.mono (by decide)) (by rfl) pass0 (pa_cons (pv 0) (pa_cons (pv 2) (pa_cons (pv 3) pa_nil)))) (pa_cons (pe_callP (ok_sizes_along T) (hr.mono (by decide)) (by rfl) pass0 (pa_cons (pv 1) (pa_cons (pv 2) (pa_cons (pv 3) pa_nil)))) pa_nil)) (by rfl))
      (pss_cons (ps_setLc (i := 6) (own := [("size", 7), ("other", 8)]) (g := (gTup K 2 (gCons (gName 7) (gCons (gName 8) gNil)))) (tt := tYes) (by rfl) sc_leads_along.nd rfl rfl (sw_true rfl rfl rfl (by decide +kernel)) (pi_zip (by rfl) T.b_zip (pa_cons (pv 4) (pa_cons (pv 5) pa_nil))) (blkOk_by (own := [("size", 7), ("other", 8)]) (N := ["stack", "other_stack", "first", "many", "ours", "theirs", "leads", "size", "other"]) (sc := defScope s_leads_along) (by decide +kernel)) (fun _ _ _ _ _ => (pg_tup rfl (pgs_cons (pg_name (i := 7) sc_leads_along.nd rfl (Or.inl rfl)) (pgs_cons (pg_name (i := 8) sc_leads_along.nd rfl (Or.inl rfl)) pgs_nil)))) (fun _ _ _ _ _ => pts_nil) (fun _ _ _ _ _ => (pe_op op_sub (pv 7) (pv 8))))
      (pss_one (ps_ret (pe_tup (pa_cons (pe_slice sl_list (pv 6) po_none (po_some (pe_un un_neg pe_int))) (pa_cons (pe_op op_sub (pe_ix ix_list (pv 6) (pe_un un_neg pe_int) (fun _ _ => rfl)) (pe_ix ix_list (pv 6) pe_int (fun _ _ => rfl))) pa_nil)))))))), ?_⟩
    have M1 := lcm_pos so1.ok so2.ok
    obtain ⟨M, hM⟩ : ∃ M : Nat, lcmF ws1 ws2 = (M : Nat) := ⟨(lcmF ws1 ws2).toNat, by omega⟩
    rw [hM] at k l120 M1
    refine ⟨_, rfl, _, rfl, q1, q2, b1, b2, ws1, ws2, rfl, h1, h2, so1, so2, _, _, rfl, rfl, gn ?_⟩
    rw [hM]
    refine st_eq [some (.ref q1), some (.ref q2), some (.int n), some (.int ((M + 1 : Nat) : Int)), none, none, none, none, none] (by rw [Int.natCast_add]; rfl) ?_
    refine ⟨_, rfl, _, rfl, _, rfl, q1, b1, n, M + 1, ws1, rfl, h1, so1, nh1, n0, n1, by omega, fun lo H1 no s1 ho => ⟨_, rfl, _, rfl, _, rfl, q2, b2, n, M + 1, ws2, rfl, h2.same s1, so2, nh2, n0, n1, by omega, fun lt H2 nt s2 ht => ⟨_, _, rfl, ?_⟩⟩⟩
    have ho2 := s2 _ _ ho
    have s12 := s1.trans s2
    refine st_eq [some (.ref q1), some (.ref q2), some (.int n), some (.int ((M + 1 : Nat) : Int)), some (.ref lo), some (.ref lt), none, none, none] rfl ?_
    have l1 : (sizesL b1 ws1 n (M + 1)).length = M + 1 := by unfold sizesL; rw [List.length_map, List.length_range]
    have l2 : (sizesL b2 ws2 n (M + 1)).length = M + 1 := by unfold sizesL; rw [List.length_map, List.length_range]
    refine ⟨_, rfl, _, rfl, lo, lt, _, _, rfl, SqL.of ho2, SqL.of ht, fun D hD => ?_⟩
    refine lc_it (walk_zip (K := K) (a := lo) (b := lt) (n := M + 1) (by rw [List.length_map, List.length_map, l1, l2]; omega)) (Pv := fun i G => Same H2 G ∧ G D = some (.lst ((leadsL b1 ws1 b2 ws2 n i).map V.int))) ⟨up hD, upd_same⟩ (fun i G _ h => ⟨SqL.of (h.1 _ _ ho2), SqL.of (h.1 _ _ ht)⟩) ?_ ?_
    · rintro i x G9 G hi ⟨hs, hd⟩ ⟨T', x1, x2, rfl, hT', rfl, hx1, hx2⟩
      have sT := up (o := .tup [x1, x2]) hT'
      obtain ⟨y1, hy1, rfl⟩ := int_at hx1
      obtain ⟨y2, hy2, rfl⟩ := int_at hx2
      have e1 : y1 = grS b1 ws1 (n + (i : Int)) := by
        unfold sizesL at hy1
        rw [List.getElem?_map, List.getElem?_range hi] at hy1
        exact (Option.some.inj hy1).symm
      have e2 : y2 = grS b2 ws2 (n + (i : Int)) := by
        unfold sizesL at hy2
        rw [List.getElem?_map, List.getElem?_range hi] at hy2
        exact (Option.some.inj hy2).symm
      subst e1
      subst e2
      have et : leadsL b1 ws1 b2 ws2 n (i + 1) = leadsL b1 ws1 b2 ws2 n i ++ [grS b1 ws1 (n + (i : Int)) - grS b2 ws2 (n + (i : Int))] := by
        unfold leadsL
        rw [List.range_succ, List.map_append]
        rfl
      have sm : ((leadsL b1 ws1 b2 ws2 n i).map V.int).length < sizeLine := by
        unfold leadsL
        rw [List.length_map, List.length_map, List.length_range, sizeLine_eq]
        omega
      refine ⟨T', _, rfl, SqT.of upd_same, rfl, _, _, rfl, _, _, rfl, rfl, rfl, _, rfl, _, rfl, _, _, rfl, rfl, _, sT _ _ hd, sm, fun z o e => ?_, ?_⟩
      · rw [upd_ne (ne_of_none e hD)]
        exact sT _ _ (hs _ _ e)
      · rw [upd_same, et, List.map_append]
        rfl
    rintro G ⟨hs, hd⟩
    refine gn ?_
    have s3 := s12.trans hs
    have lL : (leadsL b1 ws1 b2 ws2 n (M + 1)).length = M + 1 := by unfold leadsL; rw [List.length_map, List.length_range]
    refine st_eq [some (.ref q1), some (.ref q2), some (.int n), some (.int ((M + 1 : Nat) : Int)), some (.ref lo), some (.ref lt), some (.ref D), none, none] rfl ?_
    refine ⟨_, rfl, _, rfl, _, rfl, D, _, rfl, SqL.of hd, fun l1 hl1 => ?_⟩
    have eC : cutV ((leadsL b1 ws1 b2 ws2 n (M + 1)).map V.int) none (some (-1)) = (leadsL b1 ws1 b2 ws2 n M).map V.int := by
      rw [cut_last (n := M) (by rw [List.length_map, lL]), ← List.map_take]
      congr 1
      unfold leadsL
      rw [← List.map_take, List.take_range, Nat.min_eq_left (by omega)]
    rw [eC]
    have s4 := up (o := .lst ((leadsL b1 ws1 b2 ws2 n M).map V.int)) hl1
    have hd4 := s4 _ _ hd
    have hl4 : (upd G l1 (.lst ((leadsL b1 ws1 b2 ws2 n M).map V.int))) l1 = some (.lst ((leadsL b1 ws1 b2 ws2 n M).map V.int)) := upd_same
    have nl1 : H l1 = none := same_before s3 hl1
    generalize (upd G l1 (.lst ((leadsL b1 ws1 b2 ws2 n M).map V.int))) = G4 at s4 hd4 hl4 ⊢
    have eM : (leadsL b1 ws1 b2 ws2 n (M + 1)).map V.int = (leadsL b1 ws1 b2 ws2 n M).map V.int ++ [V.int (leadF b1 ws1 b2 ws2 (n + (M : Int)))] := by
      unfold leadsL
      rw [List.range_succ, List.map_append, List.map_append]
      rfl
    have at1 : atI ((leadsL b1 ws1 b2 ws2 n (M + 1)).map V.int) (-1) = some (V.int (leadF b1 ws1 b2 ws2 (n + (M : Int)))) := by
      rw [eM]
      exact atI_last _ _
    have at0 : atI ((leadsL b1 ws1 b2 ws2 n (M + 1)).map V.int) 0 = some (V.int (leadF b1 ws1 b2 ws2 n)) := by
      refine atI_nat (j := 0) ?_
      unfold leadsL
      rw [List.getElem?_map, List.getElem?_map, List.getElem?_range (by omega)]
      show some (V.int (leadF b1 ws1 b2 ws2 (n + 0))) = _
      rw [Int.add_zero]
    refine ⟨_, rfl, _, rfl, D, _, _, _, rfl, rfl, SqL.of hd4, at1, _, rfl, D, _, _, _, rfl, rfl, SqL.of hd4, at0, _, _, rfl, rfl, (by show 2 ≤ sizeLine; decide), fun tt htt => ?_⟩
    rw [Int.toNat_natCast] at k
    exact k tt l1 _ (same_before (s3.trans s4) htt) nl1 ((s3.trans s4).trans (up htt)) upd_same (up htt _ _ hl4)
end
/-! ### comparing: what stretches both share -/
def spShStr (K : PySem.W.Frag) : Sp := fun vs H Q _ => ∃ (q1 q2 : Addr) (b1 b2 : Int) (ws1 ws2 : List Wr), vs = [.ref q1, .ref q2] ∧ StkAt K H q1 b1 ws1 ∧ StkAt K H q2 b2 ws2 ∧ StkOk b1 ws1 ∧ StkOk b2 ws2 ∧ NoHead ws1 ∧ NoHead ws2 ∧
  ∀ l t H', H l = none → H t = none → Same H H' → H' l = some (.lst [.ref t]) → H' t = some (.tup [.int 0, .int (10 ^ 60 - 1)]) → Q (.ref l) H'
theorem hp_any {F : L2.St → Hp → Prop} {σ : L2.St} {H : Hp} (R : Hp → Prop) (h : R H) (k : ∀ G, R G → F σ G) : F σ H := k _ h
section
variable {P : Program} {w : World} {K : PySem.W.Frag} {mg : Str → Option Value} {base : Heap}
theorem ok_shared_stretches (T : Tx w K mg) : Prom P w K mg base CX0 8 "shared_stretches" s_shared_stretches ["stack", "other_stack"] (spShStr K) := by
  refine Prom.of T.d_shared_stretches sc_shared_stretches (fun vs H Q E h => ?_) (fun _ _ _ _ _ _ us hl => match us, hl with | [_, _], _ => rfl) (fun f cdv A outer s H vs Q E hr h => ?_)
  · obtain ⟨q1, q2, b1, b2, ws1, ws2, rfl, _⟩ := h
    rfl
  · obtain ⟨q1, q2, b1, b2, ws1, ws2, rfl, h1, h2, so1, so2, nh1, nh2, k⟩ := h
    refine ⟨_, (pss_cons (ps_par (i := 2) (j := 3) (by rfl) sc_shared_stretches.nd rfl rfl (by decide) rfl rfl (pa_cons (pe_callP (ok_stretches T) (hr.mono (by decide)) (by rfl) pass0 (pa_cons (pv 0) (pa_cons pe_int (pa_cons (pe_gint T.c_LAST) pa_nil)))) (pa_cons (pe_callP (ok_stretches T) (hr.mono (by decide)) (by rfl) pass0 (pa_cons (pv 1) (pa_cons pe_int (pa_cons (pe_gint T.c_LAST) pa_nil)))) pa_nil)) (by rfl))
      (pss_cons (ps_set (i := 4) sc_shared_stretches.nd rfl (Or.inl rfl) (pe_callB (cr_sortedSetA rfl) (by rfl) T.b_sorted (by decide +kernel) (pa_cons (pe_op op_orS (pe_scI (own := [("first", 5), ("last", 6)]) (g := (gTup K 2 (gCons (gName 5) (gCons (gName 6) gNil)))) (tt := tYes) (by rfl) sc_shared_stretches.nd (pi_list (pv 2)) (blkOk_by (own := [("first", 5), ("last", 6)]) (N := ["stack", "other_stack", "ours", "theirs", "starts", "first", "last", "start"]) (sc := defScope s_shared_stretches) (by decide +kernel)) (fun _ _ _ _ _ => (pg_tup rfl (pgs_cons (pg_name (i := 5) sc_shared_stretches.nd rfl (Or.inl rfl)) (pgs_cons (pg_name (i := 6) sc_shared_stretches.nd rfl (Or.inl rfl)) pgs_nil)))) (fun _ _ _ _ _ => pts_nil) (fun _ _ _ _ _ => (pv 5))) (pe_scI (own := [("first", 5), ("last", 6)]) (g := (gTup K 2 (gCons (gName 5) (gCons (gName 6) gNil)))) (tt := tYes) (by rfl) sc_shared_stretches.nd (pi_list (pv 3)) (blkOk_by (own := [("first", 5), ("last", 6)]) (N := ["stack", "other_stack", "ours", "theirs", "starts", "first", "last", "start"]) (sc := defScope s_shared_stretches) (by decide +kernel)) (fun _ _ _ _ _ => (pg_tup rfl (pgs_cons (pg_name (i := 5) sc_shared_stretches.nd rfl (Or.inl rfl)) (pgs_cons (pg_name (i := 6) sc_shared_stretches.nd rfl (Or.inl rfl)) pgs_nil)))) (fun _ _ _ _ _ => pts_nil) (fun _ _ _ _ _ => (pv 5)))) pa_nil)))
      (pss_one (ps_ret (pe_listZip (by rfl) (by rfl) T.b_list (by rfl) T.b_zip (pa_cons (pv 4) (pa_cons (pe_op op_cat (pe_lc (own := [("start", 7)]) (g := (gName 7)) (tt := tYes) (by rfl) sc_shared_stretches.nd (pi_list (pe_slice sl_list (pv 4) (po_some pe_int) po_none)) (blkOk_by (own := [("start", 7)]) (N := ["stack", "other_stack", "ours", "theirs", "starts", "first", "last", "start"]) (sc := defScope s_shared_stretches) (by decide +kernel)) (fun _ _ _ _ _ => (pg_name (i := 7) sc_shared_stretches.nd rfl (Or.inl rfl))) (fun _ _ _ _ _ => pts_nil) (fun _ _ _ _ _ => (pe_op op_sub (pv 7) pe_int))) (pe_lst (pa_cons (pe_gint T.c_LAST) pa_nil))) pa_nil))))))), ?_⟩
    have big : (10 : Int) ^ 60 - 1 < 2 ^ 1000 := by decide
    have zb : (0 : Int) < 2 ^ 1000 := by decide
    refine ⟨_, rfl, q1, b1, ws1, 0, 10 ^ 60 - 1, rfl, h1, so1, nh1, by decide, zb, by decide, big, fun l1 t1 H1 n1 m1 s1 g1 g2 => ⟨_, rfl, q2, b2, ws2, 0, 10 ^ 60 - 1, rfl, h2.same s1, so2, nh2, by decide, zb, by decide, big, fun l2 t2 H2 n2 m2 s2 f1 f2 => ⟨_, _, rfl, ?_⟩⟩⟩
    have g1 := s2 _ _ g1
    have g2 := s2 _ _ g2
    have s12 := s1.trans s2
    refine st_eq [some (.ref q1), some (.ref q2), some (.ref l1), some (.ref l2), none, none, none, none] rfl ?_
    refine ⟨_, rfl, l1, rfl, ⟨_, SqL.of g1⟩, fun D hD => ?_⟩
    refine sc_listI (K := K) (a := l1) (xs := [.ref t1]) (fun j G => Same H2 G ∧ (j = 0 → G D = some (SetO w D (fun _ => false) 0)) ∧ (j = 1 → G D = some (SetO w D (fun j => decide (j = 0)) 1))) ⟨up hD, fun _ => upd_same, fun z => by cases z⟩ (fun j G _ h => SqL.of (h.1 _ _ g1)) ?_ ?_
    · rintro i x G hi ⟨hs, e0, _⟩
      have i0 : i = 0 := by
        have := (List.getElem?_eq_some_iff.mp hi).1
        simp at this
        exact this
      subst i0
      have hi : some (V.ref t1) = some x := hi
      obtain rfl := Option.some.inj hi
      refine ⟨t1, _, rfl, SqT.of (hs _ _ g2), rfl, _, _, rfl, _, _, rfl, rfl, rfl, _, rfl, 0, _, _, rfl, e0 rfl, by decide, fun z o e => ?_, fun z => (by cases z), fun _ => ?_⟩
      · rw [upd_ne (ne_of_none e hD)]
        exact hs _ _ e
      · rw [upd_same]
        rfl
    rintro G1 ⟨sG, _, eD⟩
    have eD := eD rfl
    refine ⟨_, rfl, l2, rfl, ⟨_, SqL.of (sG _ _ f1)⟩, fun D2 hD2 => ?_⟩
    refine sc_listI (K := K) (a := l2) (xs := [.ref t2]) (fun j G => Same G1 G ∧ (j = 0 → G D2 = some (SetO w D2 (fun _ => false) 0)) ∧ (j = 1 → G D2 = some (SetO w D2 (fun j => decide (j = 0)) 1))) ⟨up hD2, fun _ => upd_same, fun z => by cases z⟩ (fun j G _ h => SqL.of (h.1 _ _ (sG _ _ f1))) ?_ ?_
    · rintro i x G hi ⟨hs, e0, _⟩
      have i0 : i = 0 := by
        have := (List.getElem?_eq_some_iff.mp hi).1
        simp at this
        exact this
      subst i0
      have hi : some (V.ref t2) = some x := hi
      obtain rfl := Option.some.inj hi
      refine ⟨t2, _, rfl, SqT.of (hs _ _ (sG _ _ f2)), rfl, _, _, rfl, _, _, rfl, rfl, rfl, _, rfl, 0, _, _, rfl, e0 rfl, by decide, fun z o e => ?_, fun z => (by cases z), fun _ => ?_⟩
      · rw [upd_ne (ne_of_none e hD2)]
        exact hs _ _ e
      · rw [upd_same]
        rfl
    rintro G2 ⟨sG2, _, eD2⟩
    have eD2 := eD2 rfl
    refine ⟨D, D2, _, _, rfl, rfl, ne_of_none eD hD2, sG2 _ _ eD, eD2, fun pp nn n2' npp => ?_⟩
    have s3 := (s12.trans (sG.trans sG2)).trans (up (o := SetO w pp (fun j => decide (j = 0) || decide (j = 0)) nn) npp)
    refine ⟨pp, _, nn, rfl, upd_same, by omega, fun ns lp hpw hmem hlen hlp => gn ?_⟩
    have ens : ns = [0] := by
      have m0 : (0 : Int) ∈ ns := (hmem 0).mpr rfl
      have all : ∀ x ∈ ns, x = 0 := fun x hx => by
        have := (hmem x).mp hx
        simpa using this
      match ns, m0, all, hpw with
      | [x], m0, _, _ => rw [List.mem_singleton.mp m0]
      | x :: y :: r, _, all, hpw =>
        have h1 := all x (by simp)
        have h2 := all y (by simp)
        have := (List.pairwise_cons.mp hpw).1 y (by simp)
        omega
    subst ens
    have s4 := s3.trans (up (o := .lst ([(0 : Int)].map V.int)) hlp)
    refine hp_any (fun G => Same H G ∧ G lp = some (.lst [.int 0])) ⟨s4, upd_same⟩ (fun G ⟨sG4, gL⟩ => ?_)
    refine st_eq [some (.ref q1), some (.ref q2), some (.ref l1), some (.ref l2), some (.ref lp), none, none, none] rfl ?_
    refine ⟨_, rfl, _, rfl, _, rfl, lp, _, rfl, SqL.of gL, fun u2 h2 => ⟨u2, rfl, ⟨_, SqL.of upd_same⟩, fun D3 hD3 => ?_⟩⟩
    have eC : cutV [V.int 0] (some 1) none = [] := rfl
    rw [eC]
    have v1 := up (o := .lst []) h2
    have v2 := v1.trans (up (o := .lst []) hD3)
    have gD3 : (upd (upd G u2 (.lst [])) D3 (.lst [])) D3 = some (.lst []) := upd_same
    have gu2 : (upd (upd G u2 (.lst [])) D3 (.lst [])) u2 = some (.lst []) := up hD3 _ _ upd_same
    refine lc_list (K := K) (a := u2) (xs := []) (Pv := fun i G' => G' = (upd (upd G u2 (.lst [])) D3 (.lst []))) rfl (fun i G' _ e => by rw [e]; exact SqL.of gu2) (fun i x G' e => by cases e) (fun G' e => ?_)
    subst e
    refine ⟨(by show 1 ≤ sizeLine; decide), fun u4 h4 => ⟨D3, u4, [], [.int (10 ^ 60 - 1)], rfl, rfl, up h4 _ _ gD3, upd_same, (by show 1 ≤ sizeLine; decide), fun u5 h5 => ?_⟩⟩
    have v5 := (v2.trans (up (o := .lst [.int (10 ^ 60 - 1)]) h4)).trans (up (o := .lst ([] ++ [.int (10 ^ 60 - 1)])) h5)
    refine ⟨lp, u5, [.int 0], [.int (10 ^ 60 - 1)], rfl, SqL.of (v5 _ _ gL), SqL.of upd_same, rfl, fun pp H9 ts hp s9 gp lt pt => ?_⟩
    obtain ⟨T0, e0, f0, g0⟩ := pt 0 _ _ rfl rfl
    obtain ⟨x, rfl⟩ : ∃ x, ts = [x] := List.length_eq_one_iff.mp lt
    cases e0
    have s6 := sG4.trans v5
    exact k pp T0 H9 (same_before s6 hp) (same_before s6 f0) (s6.trans s9) gp g0
end
/-! ### wraps compared with anything -/
theorem wr_ext {x y : Wr} (h1 : x.kind = y.kind) (h2 : x.nums = y.nums) : x = y := by
  cases x <;> cases y <;> first | (simp only [Wr.kind] at h1; exact absurd h1 (by decide)) | (simp only [Wr.nums, List.cons.injEq, and_true] at h2; simp only [h2])
instance : DecidableEq Wr := fun x y => decidable_of_iff (x.kind = y.kind ∧ x.nums = y.nums) ⟨fun h => wr_ext h.1 h.2, fun h => by rw [h]; exact ⟨rfl, rfl⟩⟩
def EqRes (K : PySem.W.Frag) (H : Hp) (x : Wr) (v : V) (r : Bool) : Prop := (∃ b y, v = .ref b ∧ WrapAt K H b y ∧ r = decide (x = y)) ∨ (NoC K H "Wrap" v ∧ r = false)
def spEqW (K : PySem.W.Frag) : Sp := fun vs H Q _ => ∃ (a : Addr) (x : Wr) (v : V) (r : Bool), vs = [.ref a, v] ∧ WrapAt K H a x ∧ EqRes K H x v r ∧ Q (.bl r) H
section
variable {P : Program} {w : World} {K : PySem.W.Frag} {mg : Str → Option Value} {base : Heap}
theorem ok_Wrap___eq__ (T : Tx w K mg) : PromM P w K mg base CX0 1 "Wrap" "__eq__" ["self", "other"] (spEqW K) := by
  refine PromM.of T.cl_Wrap T.me_Wrap___eq__ T.dm_Wrap___eq__ sc_Wrap___eq__ (fun vs H Q E h => ?_) (fun _ _ _ _ _ _ us hl => match us, hl with | [_, _], _ => rfl) (fun f cdv A outer s H vs Q E hr h => ?_)
  · obtain ⟨a, x, v, r, rfl, _⟩ := h
    rfl
  · obtain ⟨a, x, v, r, rfl, ⟨dx, p, h1, h2⟩, he, k⟩ := h
    refine ⟨_, (pss_one (ps_ret (pe_and (pe_callB call_isi (by rfl) T.b_isinstance (by decide +kernel) (pa_cons (pv 1) (pa_cons (pe_glob (v := .ref _) (by rfl) T.k_Wrap rfl) pa_nil))) (pe_and (pe_cmpR op_eq (pe_fld (pv 0) rfl) (pe_fld (pv 1) rfl) (nomark _)) (pe_one (pe_cmpR (op_eqD hr.units) (pe_fld (pv 0) rfl) (pe_fld (pv 1) rfl) (nomark _))))))), ?_⟩
    rcases he with ⟨b, y, rfl, ⟨dy, p', h3, h4⟩, rfl⟩ | ⟨⟨t, ty, kt⟩, rfl⟩
    · refine ⟨_, rfl, _, _, _, _, true, rfl, .own _, T.is_Wrap.ty h3, kit_self, true, rfl, iteT ?_⟩
      refine ⟨_, rfl, a, _, dx, _, _, rfl, h1, T.cl_Wrap, T.na_Wrap_kind, rfl, _, rfl, b, _, dy, _, _, rfl, h3, T.cl_Wrap, T.na_Wrap_kind, rfl, rfl, _, rfl, ifd (fun c => ?_) (fun c => ?_)⟩
      · have c : V.str x.kind = V.str y.kind := c
        injection c with c
        refine ⟨_, rfl, a, _, dx, _, _, rfl, h1, T.cl_Wrap, T.na_Wrap_numbers, rfl, _, rfl, b, _, dy, _, _, rfl, h3, T.cl_Wrap, T.na_Wrap_numbers, rfl, ?_⟩
        refine ⟨_, _, .tup (SqT.of h2) (dp_ints _), .tup (SqT.of h4) (dp_ints _), (shp_ints_t _).shaped, (shp_ints_t _).shaped, ?_⟩
        have e : PyData.eqv (.tuple (x.nums.map PyData.int)) (.tuple (y.nums.map PyData.int)) = decide (x = y) := by
          show PyData.eqvAll (x.nums.map PyData.int) (y.nums.map PyData.int) = _
          rw [eqvAll_ints, decide_eq_decide]
          exact ⟨fun z => wr_ext c z, fun z => by rw [z]⟩
        rw [e]
        exact k
      · have c : ¬ V.str x.kind = V.str y.kind := c
        have e : decide (x = y) = false := decide_eq_false (fun z => c (by rw [z]))
        rw [e] at k
        exact k
    · exact ⟨_, rfl, _, _, _, _, false, rfl, .own _, ty, kt, false, rfl, iteF k⟩
end
/-! ### stacks compared with anything; their text by repr -/
theorem lists_eqB {ws us : List Wr} (n m : Nat) (hn : n = ws.length) (hm : m = us.length) : ((n == m) && (List.range n).all fun i => decide (ws[i]? = us[i]?)) = decide (ws = us) := by
  subst hn hm
  by_cases h : ws = us
  · subst h
    simp
  · rw [decide_eq_false h]
    by_cases hl : ws.length = us.length
    · have : ((List.range ws.length).all fun i => decide (ws[i]? = us[i]?)) = false := by
        rw [List.all_eq_false]
        refine Classical.byContradiction fun no => h (List.ext_getElem? fun i => ?_)
        by_cases c : i < ws.length
        · refine Classical.byContradiction fun ne => no ⟨i, List.mem_range.mpr c, by simp [ne]⟩
        · rw [List.getElem?_eq_none (by omega), List.getElem?_eq_none (by omega)]
      rw [this, Bool.and_false]
    · rw [show (ws.length == us.length) = false from beq_eq_false_iff_ne.mpr hl, Bool.false_and]
theorem wrapAt_inj {K : PySem.W.Frag} {H : Hp} {q : Addr} {x y : Wr} (h : WrapAt K H q x) (g : WrapAt K H q y) : x = y := by
  obtain ⟨dx, p, h1, h2⟩ := h
  obtain ⟨dy, p', g1, g2⟩ := g
  rw [h1] at g1
  injection g1 with g1
  injection g1 with _ _ g1
  simp only [wrapFs, List.cons.injEq, Prod.mk.injEq, V.str.injEq, V.ref.injEq] at g1
  obtain ⟨⟨_, e1⟩, ⟨_, e2⟩, _⟩ := g1
  rw [← e2, h2] at g2
  have e3 := HO.tup.inj (Option.some.inj g2)
  have inj : ∀ (xs ys : List Int), xs.map V.int = ys.map V.int → xs = ys := fun xs => by
    induction xs with
    | nil =>
      intro ys e
      cases ys with
      | nil => rfl
      | cons y ys => cases e
    | cons x xs ih =>
      intro ys e
      cases ys with
      | nil => cases e
      | cons y ys =>
        injection e with e1 e2
        injection e1 with e1
        rw [e1, ih _ e2]
  exact wr_ext e1 (inj _ _ e3)
def EqResS (K : PySem.W.Frag) (H : Hp) (b : Int) (ws : List Wr) (v : V) (r : Bool) : Prop := (∃ q b' us, v = .ref q ∧ StkAt K H q b' us ∧ r = decide (b = b' ∧ ws = us)) ∨ (NoC K H "Stack" v ∧ r = false)
def spEqS (K : PySem.W.Frag) : Sp := fun vs H Q _ => ∃ (a : Addr) (b : Int) (ws : List Wr) (v : V) (r : Bool), vs = [.ref a, v] ∧ StkAt K H a b ws ∧ EqResS K H b ws v r ∧ Q (.bl r) H
theorem items_ins {K : PySem.W.Frag} {H : Hp} {xs ys : List V} {ws us : List Wr} (h : WrapsAt K H xs ws) (g : WrapsAt K H ys us) : ∀ (i : Nat) x y, xs[i]? = some x → ys[i]? = some y → BIns K "Wrap" (spEqW K) E0 x y H (decide (ws[i]? = us[i]?)) := fun i x y hx hy => by
  obtain ⟨p, a, rfl, ea, ha⟩ := h.get hx
  obtain ⟨q, c, rfl, ec, hc⟩ := g.get hy
  obtain ⟨dx, t, h1, h2⟩ := id ha
  obtain ⟨dy, u, g1, g2⟩ := id hc
  have e : decide (ws[i]? = us[i]?) = decide (a = c) := by rw [ea, ec]; simp
  rw [e]
  refine ⟨p, q, dx, dy, _, _, rfl, rfl, h1, g1, fun z => ?_, p, a, .ref q, _, rfl, ha, .inl ⟨q, c, rfl, hc, rfl⟩, rfl, rfl⟩
  subst z
  exact decide_eq_true (wrapAt_inj ha hc)
def spSRepr (K : PySem.W.Frag) : Sp := fun vs H Q _ => ∃ (q : Addr) (b : Int) (ws : List Wr), vs = [.ref q] ∧ StkAt K H q b ws ∧ StkOk b ws ∧ Q (.str (Str.empty ++ "Stack(base " ++ (toString b : Str) ++ ", " ++ (toString (ws.length : Int) : Str) ++ " wraps)")) H
def rEqS (K : PySem.W.Frag) : R2 := fun x y H Q => ∃ (p dx : Addr) (fs : List (Str × V)) (t : Value), x = .ref p ∧ H p = some (.ins (He.ga K "Stack") dx fs) ∧ TyX K H y t ∧ PySem.W.notFirst K (He.ga K "Stack") t = true ∧ spEqS K [.ref p, y] H (fun v H2 => ∃ b : Bool, v = .bl b ∧ Q (.bl b) H2) E0
section
variable {P : Program} {w : World} {K : PySem.W.Frag} {mg : Str → Option Value} {base : Heap}
theorem ok_Stack___eq__ (T : Tx w K mg) : PromM P w K mg base CX0 3 "Stack" "__eq__" ["self", "other"] (spEqS K) := by
  refine PromM.of T.cl_Stack T.me_Stack___eq__ T.dm_Stack___eq__ sc_Stack___eq__ (fun vs H Q E h => ?_) (fun _ _ _ _ _ _ us hl => match us, hl with | [_, _], _ => rfl) (fun f cdv A outer s H vs Q E hr h => ?_)
  · obtain ⟨a, b, ws, v, r, rfl, _⟩ := h
    rfl
  · obtain ⟨a, b, ws, v, r, rfl, ⟨dx, t, xs, h1, h2, hw⟩, he, k⟩ := h
    refine ⟨_, (pss_one (ps_ret (pe_and (pe_callB call_isi (by rfl) T.b_isinstance (by decide +kernel) (pa_cons (pv 1) (pa_cons (pe_glob (v := .ref _) (by rfl) T.k_Stack rfl) pa_nil))) (pe_and (pe_cmp (pc_eqI (pe_fld (pv 0) rfl) (pe_fld (pv 1) rfl))) (pe_one (pe_cmpR (op_eqTB (eqB_ins (ok_Wrap___eq__ T) pass0) (hr.mono (by decide))) (pe_fld (pv 0) rfl) (pe_fld (pv 1) rfl) (nomark _))))))), ?_⟩
    rcases he with ⟨q, b', us, rfl, ⟨dy, t', ys, h3, h4, hw'⟩, rfl⟩ | ⟨⟨t, ty, kt⟩, rfl⟩
    · refine ⟨_, rfl, _, _, _, _, true, rfl, .own _, T.is_Stack.ty h3, kit_self, true, rfl, iteT ?_⟩
      refine ⟨_, rfl, a, _, dx, _, _, rfl, h1, T.cl_Stack, T.na_Stack_base, rfl, _, rfl, q, _, dy, _, _, rfl, h3, T.cl_Stack, T.na_Stack_base, rfl, _, _, rfl, rfl, _, rfl, ifd (fun c => ?_) (fun c => ?_)⟩
      · have c : b = b' := c
        refine ⟨_, rfl, a, _, dx, _, _, rfl, h1, T.cl_Stack, T.na_Stack_wraps, rfl, _, rfl, q, _, dy, _, _, rfl, h3, T.cl_Stack, T.na_Stack_wraps, rfl, ?_⟩
        refine ⟨t, t', xs, ys, fun i => decide (ws[i]? = us[i]?), rfl, rfl, SqT.of h2, SqT.of h4, items_ins hw hw', ?_⟩
        rw [lists_eqB _ _ hw.len hw'.len]
        have e : decide (b = b' ∧ ws = us) = decide (ws = us) := by simp [c]
        rw [e] at k
        exact k
      · have c : ¬ b = b' := c
        have e : decide (b = b' ∧ ws = us) = false := decide_eq_false fun z => c z.1
        rw [e] at k
        exact k
    · exact ⟨_, rfl, _, _, _, _, false, rfl, .own _, ty, kt, false, rfl, iteF k⟩
end
/-! ### comparing: the first length that is found -/
noncomputable def gf (mg : Str → Option Value) (x : Str) : Addr := match mg x with
  | some (.ref f) => f
  | _ => 0
theorem gd_of {K : PySem.W.Frag} {mg : Str → Option Value} {x : Str} {st : Stmt} (D : DefAt K mg x st) : mg x = some (.ref (gf mg x)) := by
  obtain ⟨f, fd, F, hm⟩ := D
  unfold gf
  rw [hm]
/-- two defs lie at two places -/
theorem def_ne {K : PySem.W.Frag} {mg : Str → Option Value} {x y : Str} {st st' : Stmt} (D : DefAt K mg x st) (D' : DefAt K mg y st') (n : x ≠ y) : mg x ≠ some (.ref (gf mg y)) := fun z => by
  have e2 := gd_of D'
  obtain ⟨f, fd, F, hm⟩ := D
  obtain ⟨f', fd', F', hm'⟩ := D'
  rw [hm'] at e2
  rw [hm, ← e2] at z
  obtain rfl : f = f' := by
    injection z with z
    injection z
  obtain ⟨_, _, _, _, _, _, _, _, _, _, rfl, lk, _⟩ := F.ex
  obtain ⟨_, _, _, _, _, _, _, _, _, _, rfl, lk', _⟩ := F'.ex
  rw [lk] at lk'
  have e := Option.some.inj lk'
  injection e with _ _ e
  injection e with e
  exact n (congrArg FuncData.name e)
open Classical in
/-- what may be handed as rounds_to -/
noncomputable def roS (mg : Str → Option Value) (f : Addr) : Option Sp := if mg "rounds_to_other" = some (.ref f) then some (spRo roO) else if mg "rounds_to_longer" = some (.ref f) then some (spRo roL) else none
section
variable {P : Program} {w : World} {K : PySem.W.Frag} {mg : Str → Option Value} {base : Heap}
theorem ok_rounds_to_other (T : Tx w K mg) : Prom P w K mg base CX0 1 "rounds_to_other" s_rounds_to_other ["lead", "gain"] (spRo roO) := by
  refine Prom.of T.d_rounds_to_other sc_rounds_to_other (fun vs H Q E h => ?_) (fun _ _ _ _ _ _ us hl => match us, hl with | [_, _], _ => rfl) (fun f cdv A outer s H vs Q E hr h => ?_)
  · obtain ⟨l, g, rfl, _⟩ := h
    rfl
  · obtain ⟨l, g, rfl, l0, g0, k⟩ := h
    refine ⟨_, (pss_cons (ps_if (pt_cmp (pc_neI (pv 0) pe_int)) (pss_one (ps_ret pe_int)) pss_nil)
      (pss_one (ps_ret (pe_ifExp (pt_cmp (pc_eqI (pv 1) pe_int)) pe_non pe_int)))), ?_⟩
    refine ⟨_, rfl, _, _, rfl, rfl, _, rfl, ifn (fun c => ?_) (fun c => ?_)⟩
    · have c : l ≠ 0 := c
      have e : roO l g = some 0 := by unfold roO; rw [if_pos c]
      rw [e] at k
      exact k
    · have c : l = 0 := c
      have e : roO l g = if g = 0 then none else some 1 := by unfold roO; rw [if_neg (fun z => z c)]
      rw [e] at k
      refine ⟨_, rfl, _, _, rfl, rfl, _, rfl, ifd (fun d => ?_) (fun d => ?_)⟩
      · rw [if_pos d] at k
        exact k
      · rw [if_neg d] at k
        exact k
theorem ok_rounds_to_longer (T : Tx w K mg) : Prom P w K mg base CX0 1 "rounds_to_longer" s_rounds_to_longer ["lead", "gain"] (spRo roL) := by
  refine Prom.of T.d_rounds_to_longer sc_rounds_to_longer (fun vs H Q E h => ?_) (fun _ _ _ _ _ _ us hl => match us, hl with | [_, _], _ => rfl) (fun f cdv A outer s H vs Q E hr h => ?_)
  · obtain ⟨l, g, rfl, _⟩ := h
    rfl
  · obtain ⟨l, g, rfl, l0, g0, k⟩ := h
    refine ⟨_, (pss_cons (ps_if (pt_cmp (pc_gt (pv 0) pe_int)) (pss_one (ps_ret pe_int)) pss_nil)
      (pss_one (ps_ret (pe_ifExp (pt_cmp (pc_le (pv 1) pe_int)) pe_non (pe_op op_add (pe_op op_fdivW (pe_un un_neg (pv 0)) (pv 1)) pe_int))))), ?_⟩
    refine ⟨_, rfl, _, _, rfl, rfl, _, rfl, ifd (fun c => ?_) (fun c => ?_)⟩
    · have c : l > 0 := c
      have e : roL l g = some 0 := by unfold roL; rw [if_pos c]
      rw [e] at k
      exact k
    · have c : ¬ l > 0 := c
      have e : roL l g = if g ≤ 0 then none else some (-l / g + 1) := by unfold roL; rw [if_neg c]
      rw [e] at k
      refine ⟨_, rfl, _, _, rfl, rfl, _, rfl, ifd (fun d => ?_) (fun d => ?_)⟩
      · rw [if_pos d] at k
        exact k
      · have d : ¬ g ≤ 0 := d
        rw [if_neg d] at k
        exact ⟨_, rfl, _, rfl, _, rfl, _, _, rfl, rfl, wide_div (b := 600) (by omega) g0 (by decide) (by decide), _, _, rfl, rfl, k⟩
theorem held_of {k : Nat} {x : Str} {st : Stmt} {ps : List Str} {sp : Sp} {f : Addr} (G : Prom P w K mg base CX0 k x st ps sp) (hm : mg x = some (.ref f)) : L2.Held P w K mg base k f sp := by
  obtain ⟨f', fd, F, hm', D, hb⟩ := G.ex
  rw [hm] at hm'
  obtain rfl : f = f' := by
    injection hm' with z
    injection z
  exact ⟨fd, ps, F, D.kp, hb⟩
theorem ho_roS (T : Tx w K mg) : ∀ f sp, roS mg f = some sp → L2.Held P w K mg base 1 f sp := fun f sp h => by
  unfold roS at h
  split at h
  · rename_i c
    obtain rfl := Option.some.inj h
    exact held_of (ok_rounds_to_other T) c
  · split at h
    · rename_i c
      obtain rfl := Option.some.inj h
      exact held_of (ok_rounds_to_longer T) c
    · cases h
end
/-! ### comparing: the first length that is found, along a round and ahead of it -/
def spFirstA (K : PySem.W.Frag) (mg : Str → Option Value) : Sp := fun vs H Q _ => ∃ (q1 q2 f : Addr) (b1 b2 : Int) (ws1 ws2 : List Wr) (R : Int → Int → Option Int) (C : Int → Prop), vs = [.ref q1, .ref q2, .ref f] ∧ StkAt K H q1 b1 ws1 ∧ StkAt K H q2 b2 ws2 ∧ StkOk b1 ws1 ∧ StkOk b2 ws2 ∧ NoHead ws1 ∧ NoHead ws2 ∧ lcmF ws1 ws2 ≤ 120 ∧ roS mg f = some (spRo R) ∧ RoOk R C ∧
  ∀ v H', Same H H' → IsFst C (leadF b1 ws1 b2 ws2) v → Q v H'
theorem lead_small {b1 b2 : Int} {ws1 ws2 : List Wr} (so1 : StkOk b1 ws1) (so2 : StkOk b2 ws2) {n : Int} (n0 : 0 ≤ n) (n1 : n < 4096) : (leadF b1 ws1 b2 ws2 n).natAbs ≤ 2 ^ 60 := by
  have l1 := so1.len
  have l2 := so2.len
  have p1 := grS_pow so1.b0 ws1 so1.ok (show 12 ≤ 12 by decide) n0 (show n < 2 ^ 12 by omega)
  have p2 := grS_pow so2.b0 ws2 so2.ok (show 12 ≤ 12 by decide) n0 (show n < 2 ^ 12 by omega)
  have q1 : (2 : Int) ^ (12 + 8 * ws1.length) ≤ 2 ^ 60 := pow_mono (by decide) (by omega)
  have q2 : (2 : Int) ^ (12 + 8 * ws2.length) ≤ 2 ^ 60 := pow_mono (by decide) (by omega)
  unfold leadF
  omega
theorem mulw_of {x y : Int} (x0 : 0 ≤ x) (x1 : x < 2 ^ 2000) (y0 : 0 ≤ y) (y1 : y < 2 ^ 2000) : CMulW x y := by
  have h : ∀ z : Int, 0 ≤ z → z < 2 ^ 2000 → z.natAbs < 2 ^ 2000 := fun z h0 h1 => by
    have e : ((z.natAbs : Nat) : Int) = z := by omega
    have : ((z.natAbs : Nat) : Int) < ((2 ^ 2000 : Nat) : Int) := by rw [e]; exact h1
    exact Int.ofNat_lt.mp this
  exact wide_mul (h x x0 x1) (h y y0 y1) (by decide) (by decide) (by decide)
section
variable {P : Program} {w : World} {K : PySem.W.Frag} {mg : Str → Option Value} {base : Heap}
theorem ok_first_along (T : Tx w K mg) : Prom P w K mg base CX0 9 "first_along" s_first_along ["stack", "other_stack", "rounds_to"] (spFirstA K mg) := by
  refine Prom.of T.d_first_along sc_first_along (fun vs H Q E h => ?_) (fun _ _ _ _ _ _ us hl => match us, hl with | [_, _, _], _ => rfl) (fun f cdv A outer s H vs Q E hr h => ?_)
  · obtain ⟨q1, q2, g, b1, b2, ws1, ws2, R, C, rfl, _⟩ := h
    rfl
  · obtain ⟨q1, q2, g, b1, b2, ws1, ws2, R, C, rfl, h1, h2, so1, so2, nh1, nh2, l120, hS, ok, k⟩ := h
    refine ⟨_, (pss_cons (ps_for PassesOwn.never (by rfl) (pi_list (pe_callP (ok_shared_stretches T) (hr.mono (by decide)) (by rfl) pass0 (pa_cons (pv 0) (pa_cons (pv 1) pa_nil)))) (pg_tup rfl (pgs_cons (pg_name (i := 3) sc_first_along.nd rfl (Or.inl rfl)) (pgs_cons (pg_name (i := 4) sc_first_along.nd rfl (Or.inl rfl)) pgs_nil))) (pss_cons (ps_asg (pe_callP (ok_leads_along T) (hr.mono (by decide)) (by rfl) pass0 (pa_cons (pv 0) (pa_cons (pv 1) (pa_cons (pv 3) pa_nil)))) (pg_tup rfl (pgs_cons (pg_name (i := 5) sc_first_along.nd rfl (Or.inl rfl)) (pgs_cons (pg_name (i := 6) sc_first_along.nd rfl (Or.inl rfl)) pgs_nil))))
      (pss_cons (ps_set (i := 7) sc_first_along.nd rfl (Or.inl rfl) (pe_lst pa_nil))
      (pss_cons (ps_for PassesOwn.never (by rfl) (pi_enum (by rfl) T.b_enumerate (pa_cons (pv 5) pa_nil)) (pg_tup rfl (pgs_cons (pg_name (i := 8) sc_first_along.nd rfl (Or.inl rfl)) (pgs_cons (pg_name (i := 9) sc_first_along.nd rfl (Or.inl rfl)) pgs_nil))) (pss_cons (ps_set (i := 10) sc_first_along.nd rfl (Or.inl rfl) (pe_callA (S := roS mg) (i := 2) (ho_roS T) (hr.mono (by decide)) rfl (.inl rfl) (pa_cons (pv 9) (pa_cons (pv 6) pa_nil))))
      (pss_one (ps_if (pt_cmpR op_notN (pv 10) pe_non (nomark _)) (pss_one (ps_expr (pe_bm PySem.F.plainAttrs_list PySem.F.slot_list_append PySem.F.type_list_append mt_append (pv 7) (pa_cons (pe_op op_add (pe_op op_add (pv 3) (pv 8)) (pe_op op_mulW (pv 10) (pe_callB call_len_seq (by rfl) T.b_len (by decide +kernel) (pa_cons (pv 5) pa_nil)))) pa_nil)))) pss_nil))))
      (pss_one (ps_if (PW.pt (pw_and (pt_cmpR (op_neD hr.units) (pv 7) (pe_lst pa_nil) (nomark _)) (pw_and1 (pt_cmp (pc_le (pe_callB (cr_min rfl) (by rfl) T.b_min (by decide +kernel) (pa_cons (pv 7) pa_nil)) (pv 4)))))) (pss_one (ps_ret (pe_callB (cr_min rfl) (by rfl) T.b_min (by decide +kernel) (pa_cons (pv 7) pa_nil)))) pss_nil))))))
      (pss_one (ps_ret pe_non))), ?_⟩
    have M1 := lcm_pos so1.ok so2.ok
    obtain ⟨M, hM⟩ : ∃ M : Nat, lcmF ws1 ws2 = (M : Nat) := ⟨(lcmF ws1 ws2).toNat, by omega⟩
    obtain ⟨G, hG⟩ := lead_shift (b1 := b1) (b2 := b2) so1.ok so2.ok nh1 nh2
    rw [hM] at hG l120 M1
    have lsm := fun (n : Int) (n0 : 0 ≤ n) (n1 : n < 4096) => lead_small so1 so2 n0 n1
    have eG : leadF b1 ws1 b2 ws2 (0 + (M : Int)) - leadF b1 ws1 b2 ws2 0 = G := by
      have := hG 0 1
      rw [Int.mul_one] at this
      omega
    have gsm : G.natAbs ≤ 2 ^ 61 := by
      have a := lsm (0 + (M : Int)) (by omega) (by omega)
      have b := lsm 0 (by omega) (by omega)
      omega
    refine ⟨_, rfl, _, rfl, q1, q2, b1, b2, ws1, ws2, rfl, h1, h2, so1, so2, nh1, nh2, fun ll t H1 nll nt s1 hll ht => ?_⟩
    refine ⟨ll, rfl, ⟨_, SqL.of hll⟩, for_list (K := K) (a := ll) (xs := [.ref t]) (fun i σ G' => Same H1 G' ∧ (i = 1 → IsFst C (leadF b1 ws1 b2 ws2) .non) ∧ ∃ v3 v4 v5 v6 v7 v8 v9 v10 : Option V, σ = [some (.ref q1), some (.ref q2), some (.ref g), v3, v4, v5, v6, v7, v8, v9, v10]) ⟨Same.refl _, fun z => (by cases z), none, none, none, none, none, none, none, none, rfl⟩ (fun i σ G' _ h => SqL.of (h.1 _ _ hll)) ?_ ?_⟩
    · rintro i x σ G1 hi ⟨hs, _, v3, v4, v5, v6, v7, v8, v9, v10, rfl⟩
      have i0 : i = 0 := by
        have := (List.getElem?_eq_some_iff.mp hi).1
        simp at this
        exact this
      subst i0
      have hi : some (V.ref t) = some x := hi
      obtain rfl := Option.some.inj hi
      refine ⟨t, _, rfl, SqT.of (hs _ _ ht), rfl, _, _, rfl, _, _, rfl, rfl, ?_⟩
      refine st_eq [some (.ref q1), some (.ref q2), some (.ref g), some (.int 0), some (.int (10 ^ 60 - 1)), v5, v6, v7, v8, v9, v10] rfl ?_
      have S1 := s1.trans hs
      refine ⟨_, rfl, _, rfl, _, rfl, q1, q2, b1, b2, 0, ws1, ws2, rfl, h1.same S1, h2.same S1, so1, so2, nh1, nh2, by rw [hM]; exact l120, by decide, (by decide : (0 : Int) < 2 ^ 400), fun t2 L H2 nt2 nL s2 ht2 hL => ?_⟩
      rw [hM, eG] at ht2
      rw [hM, Int.toNat_natCast] at hL
      refine ⟨t2, _, rfl, SqT.of ht2, rfl, _, _, rfl, _, _, rfl, rfl, ?_⟩
      refine st_eq [some (.ref q1), some (.ref q2), some (.ref g), some (.int 0), some (.int (10 ^ 60 - 1)), some (.ref L), some (.int G), v7, v8, v9, v10] rfl ?_
      refine ⟨Nat.zero_le _, fun F hF => gn ?_⟩
      have s3 := up (o := .lst []) hF
      have hL3 := s3 _ _ hL
      have hF3 : (upd H2 F (.lst [])) F = some (.lst []) := upd_same
      refine hp_eq (upd H2 F (.lst [])) rfl ?_
      generalize (upd H2 F (.lst [])) = H3 at s3 hL3 hF3 ⊢
      refine st_eq [some (.ref q1), some (.ref q2), some (.ref g), some (.int 0), some (.int (10 ^ 60 - 1)), some (.ref L), some (.int G), some (.ref F), v8, v9, v10] rfl ?_
      have lL : (leadsL b1 ws1 b2 ws2 0 M).length = M := by unfold leadsL; rw [List.length_map, List.length_range]
      have at_ : ∀ (p : Nat) (y : Int), (leadsL b1 ws1 b2 ws2 0 M)[p]? = some y → p < M ∧ y = leadF b1 ws1 b2 ws2 (p : Int) := fun p y hy => by
        have hp := (List.getElem?_eq_some_iff.mp hy).1
        rw [lL] at hp
        unfold leadsL at hy
        rw [List.getElem?_map, List.getElem?_range hp] at hy
        refine ⟨hp, ?_⟩
        have e := Option.some.inj hy
        rw [← e]
        show leadF b1 ws1 b2 ws2 (0 + (p : Int)) = _
        rw [Int.zero_add]
      have near := fun i (iM : i ≤ M) => foundR_near (i := i) (g := G) ok (f := leadF b1 ws1 b2 ws2) (M := M) (B := 2 ^ 60) (by omega) iM (fun p pi => lsm p (by omega) (by omega))
      refine ⟨_, rfl, L, _, rfl, SqL.of hL3, for_it (walk_enum (K := K) (a := L) (xs := (leadsL b1 ws1 b2 ws2 0 M).map V.int)) (fun i σ G' => Same H2 G' ∧ G' F = some (.lst ((foundR R (leadF b1 ws1 b2 ws2) G M i).map V.int)) ∧ ∃ v8 v9 v10 : Option V, σ = [some (.ref q1), some (.ref q2), some (.ref g), some (.int 0), some (.int (10 ^ 60 - 1)), some (.ref L), some (.int G), some (.ref F), v8, v9, v10])
        ⟨s3, hF3, v8, v9, v10, rfl⟩ (fun _ _ G' _ h => SqL.of (h.1 _ _ hL)) ?_ ?_⟩
      · rintro i x σ G8 G9 hi ⟨hs3, hF3, v8, v9, v10, rfl⟩ ⟨T2, x1, x2, rfl, hT2, rfl, e1, e2⟩
        cases e1
        obtain ⟨y, hy, rfl⟩ := int_at e2
        obtain ⟨iM, rfl⟩ := at_ i y hy
        have sT := up (o := .tup [.int (i : Nat), .int (leadF b1 ws1 b2 ws2 (i : Int))]) hT2
        have hF4 := sT _ _ hF3
        have s4 := hs3.trans sT
        refine ⟨T2, _, rfl, SqT.of upd_same, rfl, _, _, rfl, _, _, rfl, rfl, ?_⟩
        generalize (upd G8 T2 (.tup [.int (i : Nat), .int (leadF b1 ws1 b2 ws2 (i : Int))])) = G10 at sT hF4 s4 ⊢
        refine st_eq [some (.ref q1), some (.ref q2), some (.ref g), some (.int 0), some (.int (10 ^ 60 - 1)), some (.ref L), some (.int G), some (.ref F), some (.int (i : Nat)), some (.int (leadF b1 ws1 b2 ws2 (i : Int))), v10] rfl ?_
        have ls := lsm (i : Int) (by omega) (by omega)
        have e600 : (2 : Nat) ^ 61 < 2 ^ 600 := by decide
        refine ⟨g, spRo R, rfl, hS, _, rfl, _, rfl, _, _, rfl, by omega, by omega, gn ?_⟩
        have fs := foundR_succ R (leadF b1 ws1 b2 ws2) G M i
        have fl := foundR_len R (leadF b1 ws1 b2 ws2) G M i
        cases hR : R (leadF b1 ws1 b2 ws2 (i : Int)) G with
        | none =>
          rw [hR] at fs
          have fs : foundR R (leadF b1 ws1 b2 ws2) G M (i + 1) = foundR R (leadF b1 ws1 b2 ws2) G M i := by rw [fs]; simp
          refine ⟨_, rfl, rfl, _, rfl, ifn (fun c => absurd rfl c) (fun _ => ?_)⟩
          exact ⟨s4, by rw [fs]; exact hF4, _, _, _, rfl⟩
        | some r =>
          rw [hR] at fs
          have fs : foundR R (leadF b1 ws1 b2 ws2) G M (i + 1) = foundR R (leadF b1 ws1 b2 ws2) G M i ++ [(i : Int) + r * (M : Int)] := fs
          obtain ⟨r0, _, _, r1⟩ := ok.some_ _ _ _ hR
          have e2000 : (2 : Int) ^ 60 + 1 < 2 ^ 2000 := by decide
          have m2000 : (120 : Int) < 2 ^ 2000 := by decide
          refine ⟨_, rfl, rfl, _, rfl, ifn (fun _ => ?_) (fun c => by cases c)⟩
          refine ⟨_, rfl, .inl ⟨rfl, _, SqL.of hF4⟩, _, rfl, _, rfl, _, _, rfl, rfl, _, rfl, _, rfl, L, _, rfl, .inl (SqL.of (s4 _ _ hL)), _, _, rfl, rfl, mulw_of r0 (by omega) (by omega) (by rw [List.length_map, lL]; omega), _, _, rfl, rfl, F, _, _, rfl, rfl, hF4, ?_, ?_⟩
          · rw [List.length_map, sizeLine_eq]
            omega
          · refine ⟨fun z o e => by rw [upd_ne (ne_of_none e hF)]; exact s4 _ _ e, ?_, _, _, _, rfl⟩
            rw [upd_same, fs, List.map_append, List.length_map, lL]
            show some (HO.lst (_ ++ [V.int (0 + (i : Int) + r * (M : Int))])) = _
            rw [Int.zero_add]
            rfl
      · rintro σ G8 ⟨hs3, hF3, v8, v9, v10, rfl⟩
        rw [List.length_map, lL] at hF3
        have S3 := hs.trans (s2.trans hs3)
        have fl := foundR_len R (leadF b1 ws1 b2 ws2) G M M
        have nr := near M (Nat.le_refl M)
        have fst := fun n h1 h2 => foundR_fst ok (f := leadF b1 ws1 b2 ws2) (g := G) (M := M) (by omega) hG (n := n) h1 h2
        have fno := fun h => foundR_none ok (f := leadF b1 ws1 b2 ws2) (g := G) (M := M) (by omega) hG h
        generalize foundR R (leadF b1 ws1 b2 ws2) G M M = fs at hF3 fl nr fst fno
        refine ⟨_, rfl, Nat.zero_le _, fun e he => ?_⟩
        have se := up (o := .lst []) he
        refine ⟨_, _, .lst (SqL.of (se _ _ hF3)) (dp_ints fs), .lst (SqL.of upd_same) .nil, (shp_ints_l fs).shaped, rfl, ?_⟩
        cases fs with
        | nil =>
          refine ⟨_, rfl, ifb_neg rfl ?_⟩
          refine iteF ?_
          exact ⟨S3.trans se, fun _ => fno rfl, _, _, _, _, _, _, _, _, rfl⟩
        | cons f0 fr =>
          refine ⟨_, rfl, ifb_pos rfl ?_⟩
          have S4 := S3.trans se
          refine ⟨_, rfl, F, _, rfl, SqL.of (se _ _ hF3), by simp, fun m hm hl => ⟨_, rfl, _, _, rfl, rfl, _, rfl, ?_⟩⟩
          have mb := nr m hm
          have small : (120 : Int) * (((2 ^ 60 : Nat) : Int) + 2) ≤ 10 ^ 60 - 1 := by decide
          refine ifd_pos (show m ≤ 10 ^ 60 - 1 by omega) ?_
          exact ⟨_, rfl, F, _, rfl, SqL.of (se _ _ hF3), by simp, fun m2 hm2 hl2 => k _ _ (s1.trans S4) (fst m2 hm2 hl2)⟩
    · rintro σ G1 ⟨hs, hn, v3, v4, v5, v6, v7, v8, v9, v10, rfl⟩
      exact k _ _ (s1.trans hs) (hn rfl)
theorem RoOk.zero {R : Int → Int → Option Int} {C : Int → Prop} (ok : RoOk R C) (hz : R 0 0 = none) : ¬ C 0 := by
  have := ok.none_ 0 0 hz 0 (Int.le_refl 0)
  rw [Int.mul_zero, Int.add_zero] at this
  exact this
theorem RoOk.now {R : Int → Int → Option Int} {C : Int → Prop} (ok : RoOk R C) (l : Int) : (∃ r, R l 0 = some r ∧ r = 0 ∧ C l) ∨ (R l 0 = none ∧ ¬ C l) := by
  cases h : R l 0 with
  | none =>
    have := ok.none_ _ _ h 0 (Int.le_refl 0)
    rw [Int.mul_zero, Int.add_zero] at this
    exact .inr ⟨rfl, this⟩
  | some r =>
    obtain ⟨r0, c1, c2, _⟩ := ok.some_ _ _ _ h
    rw [Int.zero_mul, Int.add_zero] at c1
    refine .inl ⟨r, rfl, ?_, c1⟩
    refine Classical.byContradiction fun n => ?_
    have := c2 0 (Int.le_refl 0) (by omega)
    rw [Int.mul_zero, Int.add_zero] at this
    exact this c1
def spFound (K : PySem.W.Frag) (mg : Str → Option Value) : Sp := fun vs H Q _ => ∃ (q1 q2 f : Addr) (b1 b2 : Int) (ws1 ws2 : List Wr) (R : Int → Int → Option Int) (C : Int → Prop), vs = [.ref q1, .ref q2, .ref f] ∧ StkAt K H q1 b1 ws1 ∧ StkAt K H q2 b2 ws2 ∧ StkOk b1 ws1 ∧ StkOk b2 ws2 ∧ NoHead ws1 ∧ NoHead ws2 ∧ lcmF ws1 ws2 ≤ 120 ∧ roS mg f = some (spRo R) ∧ RoOk R C ∧ R 0 0 = none ∧
  ∀ v H', Same H H' → IsFst C (leadF b1 ws1 b2 ws2) v → Q v H'
theorem ok_first_found (T : Tx w K mg) : Prom P w K mg base CX0 10 "first_found" s_first_found ["stack", "other_stack", "rounds_to"] (spFound K mg) := by
  refine Prom.of T.d_first_found sc_first_found (fun vs H Q E h => ?_) (fun _ _ _ _ _ _ us hl => match us, hl with | [_, _, _], _ => rfl) (fun f cdv A outer s H vs Q E hr h => ?_)
  · obtain ⟨q1, q2, g, b1, b2, ws1, ws2, R, C, rfl, _⟩ := h
    rfl
  · obtain ⟨q1, q2, g, b1, b2, ws1, ws2, R, C, rfl, h1, h2, so1, so2, nh1, nh2, l120, hS, ok, hz, k⟩ := h
    refine ⟨_, (pss_cons (ps_if (pt_cmpR (show OpR _ (compareOp .Eq) (rEqS K) from op_eqOA (ok_Stack___eq__ T) (hr.mono (show 3 ≤ 9 by decide)) pass0) (pv 0) (pv 1) (nomark _)) (pss_one (ps_ret pe_non)) pss_nil)
      (pss_cons (ps_for PassesOwn.never (by rfl) (pi_range1 (by rfl) T.b_range (pa_cons (pe_gint T.c_NEAR_comparing) pa_nil)) (pg_name (i := 3) sc_first_found.nd rfl (Or.inl rfl)) (pss_one (ps_if (pt_cmpR (op_eqD hr.units) (pe_callA (S := roS mg) (i := 2) (ho_roS T) (hr.mono (by decide)) rfl (.inl rfl) (pa_cons (pe_op op_sub (pe_methP (ok_Stack_grown T) (hr.mono (by decide)) pass0 (pv 0) (pa_cons (pv 3) pa_nil)) (pe_methP (ok_Stack_grown T) (hr.mono (by decide)) pass0 (pv 1) (pa_cons (pv 3) pa_nil))) (pa_cons pe_int pa_nil))) pe_int (nomark _)) (pss_one (ps_ret (pv 3))) pss_nil)))
      (pss_one (ps_ret (pe_callP (ok_first_along T) (hr.mono (by decide)) (by rfl) pass0 (pa_cons (pv 0) (pa_cons (pv 1) (pa_cons (pv 2) pa_nil)))))))), ?_⟩
    obtain ⟨dx, t, xs, g1, g2, g3⟩ := id h1
    obtain ⟨dy, u, ys, f1, f2, f3⟩ := id h2
    refine ⟨_, rfl, _, rfl, q1, dx, _, _, rfl, g1, T.is_Stack.ty f1, notFirst_own, q1, b1, ws1, .ref q2, _, rfl, h1, .inl ⟨q2, b2, ws2, rfl, h2, rfl⟩, _, rfl, _, rfl, ifd (fun c => ?_) (fun c => ?_)⟩
    · obtain ⟨rfl, rfl⟩ := c
      refine k _ _ (Same.refl _) (.inl ⟨rfl, fun n n0 hc => ?_⟩)
      unfold leadF at hc
      rw [Int.sub_self] at hc
      exact ok.zero hz hc
    · refine ⟨48, rfl, by decide, by decide, for_range (lo := 0) (n := 48) (fun i σ G => G = H ∧ (∀ m : Int, 0 ≤ m → m < (i : Int) → ¬ C (leadF b1 ws1 b2 ws2 m)) ∧ ∃ v : Option V, σ = [some (.ref q1), some (.ref q2), some (.ref g), v]) ⟨rfl, fun m a b => absurd a (by omega), none, rfl⟩ ?_ ?_⟩
      · rintro i σ G hi ⟨rfl, hno, v, rfl⟩
        have hi : i < 48 := hi
        refine gn ?_
        refine st_eq [some (.ref q1), some (.ref q2), some (.ref g), some (.int (0 + (i : Int)))] rfl ?_
        rw [Int.zero_add]
        refine ⟨g, spRo R, rfl, hS, _, rfl, q1, dx, _, rfl, g1, rfl, _, rfl, ?_⟩
        have big : (i : Int) < 2 ^ 1000 := Int.lt_of_lt_of_le (show (i : Int) < 48 by omega) (by decide)
        have sm := lead_small so1 so2 (n := (i : Int)) (by omega) (by omega)
        have e600 : (2 : Nat) ^ 60 < 2 ^ 600 := by decide
        refine ⟨q1, b1, ws1, i, rfl, h1, so1, by omega, big, _, rfl, q2, dy, _, rfl, f1, rfl, _, rfl, q2, b2, ws2, i, rfl, h2, so2, by omega, big, _, _, rfl, rfl, leadF b1 ws1 b2 ws2 i, 0, rfl, by omega, by decide, ?_⟩
        rcases ok.now (leadF b1 ws1 b2 ws2 i) with ⟨r, hr', rfl, hc⟩ | ⟨hr', hc⟩
        · rw [hr']
          refine ⟨.int 0, .int 0, .int _, .int _, rfl, rfl, _, rfl, ifb_pos rfl ⟨_, rfl, k _ _ (Same.refl _) (.inr ⟨i, rfl, by omega, hc, hno⟩)⟩⟩
        · rw [hr']
          refine ⟨.none, .int 0, .non, .int _, rfl, rfl, _, rfl, ifb_neg rfl ⟨rfl, fun m m0 m1 => ?_, _, rfl⟩⟩
          by_cases e : m = (i : Int)
          · rw [e]
            exact hc
          · exact hno m m0 (by omega)
      · rintro σ G ⟨rfl, hno, v, rfl⟩
        exact ⟨_, rfl, _, rfl, _, rfl, q1, q2, g, b1, b2, ws1, ws2, R, C, rfl, h1, h2, so1, so2, nh1, nh2, l120, hS, ok, fun v H' s hv => k v H' s hv⟩
end
/-- what is asked of two stacks -/
def spCmp (K : PySem.W.Frag) (C : Int → Prop) (g : V → V) : Sp := fun vs H Q _ => ∃ (q1 q2 : Addr) (b1 b2 : Int) (ws1 ws2 : List Wr), vs = [.ref q1, .ref q2] ∧ StkAt K H q1 b1 ws1 ∧ StkAt K H q2 b2 ws2 ∧ StkOk b1 ws1 ∧ StkOk b2 ws2 ∧ NoHead ws1 ∧ NoHead ws2 ∧ lcmF ws1 ws2 ≤ 120 ∧ ∀ v H', Same H H' → IsFst C (leadF b1 ws1 b2 ws2) v → Q (g v) H'
section
variable {P : Program} {w : World} {K : PySem.W.Frag} {mg : Str → Option Value} {base : Heap}
theorem roS_other (T : Tx w K mg) : roS mg (gf mg "rounds_to_other") = some (spRo roO) := if_pos (gd_of T.d_rounds_to_other)
theorem roS_longer (T : Tx w K mg) : roS mg (gf mg "rounds_to_longer") = some (spRo roL) := by
  unfold roS
  rw [if_neg (def_ne T.d_rounds_to_other T.d_rounds_to_longer (by decide)), if_pos (gd_of T.d_rounds_to_longer)]
theorem ok_first_other (T : Tx w K mg) : Prom P w K mg base CX0 11 "first_other" s_first_other ["stack", "other_stack"] (spCmp K (fun l => l ≠ 0) id) := by
  refine Prom.of T.d_first_other sc_first_other (fun vs H Q E h => ?_) (fun _ _ _ _ _ _ us hl => match us, hl with | [_, _], _ => rfl) (fun f cdv A outer s H vs Q E hr h => ?_)
  · obtain ⟨q1, q2, b1, b2, ws1, ws2, rfl, _⟩ := h
    rfl
  · obtain ⟨q1, q2, b1, b2, ws1, ws2, rfl, h1, h2, so1, so2, nh1, nh2, l120, k⟩ := h
    refine ⟨_, (pss_cons (ps_expr (pe_callP (ok_check_both T) (hr.mono (by decide)) (by rfl) pass0 (pa_cons (pv 0) (pa_cons (pv 1) pa_nil))))
      (pss_one (ps_ret (pe_callP (ok_first_found T) (hr.mono (by decide)) (by rfl) pass0 (pa_cons (pv 0) (pa_cons (pv 1) (pa_cons (pe_glob (v := .ref (gf mg "rounds_to_other")) (by rfl) (gd_of T.d_rounds_to_other) rfl) pa_nil))))))), ?_⟩
    exact ⟨_, rfl, _, rfl, q1, q2, b1, b2, ws1, ws2, rfl, h1, h2, so1, so2, l120, _, rfl, _, rfl, q1, q2, _, b1, b2, ws1, ws2, roO, _, rfl, h1, h2, so1, so2, nh1, nh2, l120, roS_other T, roO_ok, rfl, k⟩
theorem ok_first_longer (T : Tx w K mg) : Prom P w K mg base CX0 11 "first_longer" s_first_longer ["stack", "other_stack"] (spCmp K (fun l => 0 < l) id) := by
  refine Prom.of T.d_first_longer sc_first_longer (fun vs H Q E h => ?_) (fun _ _ _ _ _ _ us hl => match us, hl with | [_, _], _ => rfl) (fun f cdv A outer s H vs Q E hr h => ?_)
  · obtain ⟨q1, q2, b1, b2, ws1, ws2, rfl, _⟩ := h
    rfl
  · obtain ⟨q1, q2, b1, b2, ws1, ws2, rfl, h1, h2, so1, so2, nh1, nh2, l120, k⟩ := h
    refine ⟨_, (pss_cons (ps_expr (pe_callP (ok_check_both T) (hr.mono (by decide)) (by rfl) pass0 (pa_cons (pv 0) (pa_cons (pv 1) pa_nil))))
      (pss_one (ps_ret (pe_callP (ok_first_found T) (hr.mono (by decide)) (by rfl) pass0 (pa_cons (pv 0) (pa_cons (pv 1) (pa_cons (pe_glob (v := .ref (gf mg "rounds_to_longer")) (by rfl) (gd_of T.d_rounds_to_longer) rfl) pa_nil))))))), ?_⟩
    exact ⟨_, rfl, _, rfl, q1, q2, b1, b2, ws1, ws2, rfl, h1, h2, so1, so2, l120, _, rfl, _, rfl, q1, q2, _, b1, b2, ws1, ws2, roL, _, rfl, h1, h2, so1, so2, nh1, nh2, l120, roS_longer T, roL_ok, rfl, k⟩
theorem ok_alike (T : Tx w K mg) : Prom P w K mg base CX0 12 "alike" s_alike ["stack", "other_stack"] (spCmp K (fun l => l ≠ 0) (fun v => .bl (decide (v = .non)))) := by
  refine Prom.of T.d_alike sc_alike (fun vs H Q E h => ?_) (fun _ _ _ _ _ _ us hl => match us, hl with | [_, _], _ => rfl) (fun f cdv A outer s H vs Q E hr h => ?_)
  · obtain ⟨q1, q2, b1, b2, ws1, ws2, rfl, _⟩ := h
    rfl
  · obtain ⟨q1, q2, b1, b2, ws1, ws2, rfl, h1, h2, so1, so2, nh1, nh2, l120, k⟩ := h
    refine ⟨_, (pss_one (ps_ret (pe_cmpR op_isN (pe_callP (ok_first_other T) (hr.mono (by decide)) (by rfl) pass0 (pa_cons (pv 0) (pa_cons (pv 1) pa_nil))) pe_non (nomark _)))), ?_⟩
    exact ⟨_, rfl, _, rfl, q1, q2, b1, b2, ws1, ws2, rfl, h1, h2, so1, so2, nh1, nh2, l120, fun v H' s hv => ⟨rfl, k v H' s hv⟩⟩
theorem ok_never_longer (T : Tx w K mg) : Prom P w K mg base CX0 12 "never_longer" s_never_longer ["stack", "other_stack"] (spCmp K (fun l => 0 < l) (fun v => .bl (decide (v = .non)))) := by
  refine Prom.of T.d_never_longer sc_never_longer (fun vs H Q E h => ?_) (fun _ _ _ _ _ _ us hl => match us, hl with | [_, _], _ => rfl) (fun f cdv A outer s H vs Q E hr h => ?_)
  · obtain ⟨q1, q2, b1, b2, ws1, ws2, rfl, _⟩ := h
    rfl
  · obtain ⟨q1, q2, b1, b2, ws1, ws2, rfl, h1, h2, so1, so2, nh1, nh2, l120, k⟩ := h
    refine ⟨_, (pss_one (ps_ret (pe_cmpR op_isN (pe_callP (ok_first_longer T) (hr.mono (by decide)) (by rfl) pass0 (pa_cons (pv 0) (pa_cons (pv 1) pa_nil))) pe_non (nomark _)))), ?_⟩
    exact ⟨_, rfl, _, rfl, q1, q2, b1, b2, ws1, ws2, rfl, h1, h2, so1, so2, nh1, nh2, l120, fun v H' s hv => ⟨rfl, k v H' s hv⟩⟩
end
/-! ### arguments that may be other things -/
/-- a stack, or no stack -/
def StkArg (K : PySem.W.Frag) (H : Hp) (v : V) (g : Bool) : Prop := (g = true ∧ ∃ (q : Addr) (b : Int) (ws : List Wr), v = .ref q ∧ StkAt K H q b ws ∧ StkOk b ws) ∨ (g = false ∧ NoC K H "Stack" v)
def spChkSt (K : PySem.W.Frag) : Sp := fun vs H Q E => ∃ (v : V) (g : Bool), vs = [v] ∧ StkArg K H v g ∧ (g = true → Q .non H) ∧ (g = false → Fails K H E "NotAStack" "value" v)
/-- no tuple, or a tuple of these things -/
def TupArg (K : PySem.W.Frag) (H : Hp) (v : V) : Option (List V) → Prop
  | none => NoTup K H v
  | some xs => xs.length ≤ 10000 ∧ ∃ a, v = .ref a ∧ H a = some (.tup xs) ∧ ∀ x ∈ xs, Thg K H x
theorem Thg.same {K : PySem.W.Frag} {H H' : Hp} {v : V} (s : Same H H') (h : Thg K H v) : Thg K H' v := by
  obtain ⟨t, ty, k⟩ := h
  exact ⟨t, tyX_same s ty, k⟩
section
variable {P : Program} {w : World} {K : PySem.W.Frag} {mg : Str → Option Value} {base : Heap}
theorem ok_check_stackX (T : Tx w K mg) : Prom P w K mg base (L2.CX P w) 3 "check_stack" s_check_stack ["value"] (spChkSt K) := by
  refine Prom.ofX T.d_check_stack sc_check_stack (fun vs H Q E h => ?_) (fun _ _ _ _ _ _ us hl => match us, hl with | [_], _ => rfl) (fun f cdv A outer s H vs Q E hr h => ?_)
  · obtain ⟨v, g, rfl, _⟩ := h
    rfl
  · obtain ⟨v, g, rfl, hg, k, ke⟩ := h
    refine ⟨_, (pss_one (ps_if (pt_not (pt_val (pe_callB call_isi (by rfl) T.b_isinstance (by decide +kernel) (pa_cons (pv 0) (pa_cons (pe_glob (v := .ref _) (by rfl) T.k_Stack rfl) pa_nil))))) (pss_one (ps_raiseE (ok_err_NotAStack T) (hr.mono (by decide)) (by rfl) (takes_of rfl rfl rfl rfl) (pv 0))) pss_nil)), ?_⟩
    rcases hg with ⟨rfl, q, b, ws, rfl, ⟨dx, t, xs, h1, h2, h3⟩, so⟩ | ⟨rfl, t, ty, kt⟩
    · exact ⟨_, rfl, _, _, _, _, true, rfl, .own _, T.is_Stack.ty h1, kit_self, true, rfl, iteF (k rfl)⟩
    · exact ⟨_, rfl, _, _, _, _, false, rfl, .own _, ty, kt, false, rfl, iteT ⟨_, rfl, ke rfl⟩⟩
end
/-! ### comparing what may be no stacks, or too fine together -/
/-- the thing is this stack, or none -/
def SArg (K : PySem.W.Frag) (H : Hp) (v : V) : Option (Int × List Wr) → Prop
  | none => NoC K H "Stack" v
  | some (b, ws) => ∃ q, v = .ref q ∧ StkAt K H q b ws ∧ StkOk b ws
theorem SArg.same {K : PySem.W.Frag} {H H' : Hp} {v : V} {g : Option (Int × List Wr)} (s : Same H H') (h : SArg K H v g) : SArg K H' v g := by
  cases g with
  | none =>
    obtain ⟨t, ty, k⟩ := h
    exact ⟨t, tyX_same s ty, k⟩
  | some g =>
    obtain ⟨q, e, h, so⟩ := h
    exact ⟨q, e, h.same s, so⟩
def CmpEnd (K : PySem.W.Frag) (H : Hp) (E : XK) (u v : V) : Option (Int × List Wr) → Option (Int × List Wr) → (Int → List Wr → Int → List Wr → Prop) → Prop
  | none, _, _ => Fails K H E "NotAStack" "value" u
  | some _, none, _ => Fails K H E "NotAStack" "value" v
  | some (b1, ws1), some (b2, ws2), k => (120 < lcmF ws1 ws2 → Fails K H E "TooFine" "limit" (.int 120)) ∧ (lcmF ws1 ws2 ≤ 120 → k b1 ws1 b2 ws2)
theorem CmpEnd.mono {K : PySem.W.Frag} {H : Hp} {E : XK} {u v : V} {g1 g2 : Option (Int × List Wr)} {k k' : Int → List Wr → Int → List Wr → Prop} (h : CmpEnd K H E u v g1 g2 k) (m : ∀ b1 ws1 b2 ws2, k b1 ws1 b2 ws2 → k' b1 ws1 b2 ws2) : CmpEnd K H E u v g1 g2 k' :=
  match g1, g2, h with
  | none, _, h => h
  | some _, none, h => h
  | some (b1, ws1), some (b2, ws2), h => ⟨h.1, fun z => m b1 ws1 b2 ws2 (h.2 z)⟩
def spBothX (K : PySem.W.Frag) : Sp := fun vs H Q E => ∃ (u v : V) (g1 g2 : Option (Int × List Wr)), vs = [u, v] ∧ SArg K H u g1 ∧ SArg K H v g2 ∧ CmpEnd K H E u v g1 g2 fun b1 ws1 b2 ws2 => Q .non H
def spCmpX (K : PySem.W.Frag) (C : Int → Prop) (g : V → V) : Sp := fun vs H Q E => ∃ (u v : V) (g1 g2 : Option (Int × List Wr)), vs = [u, v] ∧ SArg K H u g1 ∧ SArg K H v g2 ∧ CmpEnd K H E u v g1 g2 fun b1 ws1 b2 ws2 => NoHead ws1 ∧ NoHead ws2 ∧ ∀ r H', Same H H' → IsFst C (leadF b1 ws1 b2 ws2) r → Q (g r) H'
def spNoStk (K : PySem.W.Frag) : Sp := fun vs H Q E => ∃ v, vs = [v] ∧ NoC K H "Stack" v ∧ Fails K H E "NotAStack" "value" v
section
variable {P : Program} {w : World} {K : PySem.W.Frag} {mg : Str → Option Value} {base : Heap}
theorem ok_check_bothX (T : Tx w K mg) : Prom P w K mg base (L2.CX P w) 4 "check_both" s_check_both ["stack", "other_stack"] (spBothX K) := by
  refine Prom.ofX T.d_check_both sc_check_both (fun vs H Q E h => ?_) (fun _ _ _ _ _ _ us hl => match us, hl with | [_, _], _ => rfl) (fun f cdv A outer s H vs Q E hr h => ?_)
  · obtain ⟨u, v, g1, g2, rfl, _⟩ := h
    rfl
  · obtain ⟨u, v, g1, g2, rfl, hu, hv, k⟩ := h
    refine ⟨_, (pss_cons (ps_expr (pe_callP (ok_check_stackX T) (hr.mono (by decide)) (by rfl) passX (pa_cons (pv 0) pa_nil)))
      (pss_cons (ps_expr (pe_callP (ok_check_stackX T) (hr.mono (by decide)) (by rfl) passX (pa_cons (pv 1) pa_nil)))
      (pss_one (ps_if (pt_cmp (pc_gt (pe_callP (ok_shared_fineness T) (hr.mono (by decide)) (by rfl) pass0 (pa_cons (pv 0) (pa_cons (pv 1) pa_nil))) (pe_gint T.c_MOST_FINENESS))) (pss_one (ps_raiseE (ok_err_TooFine T) (hr.mono (by decide)) (by rfl) (takes_of rfl rfl rfl rfl) (pe_gint T.c_MOST_FINENESS))) pss_nil)))), ?_⟩
    match g1, g2, hu, hv, k with
    | none, _, hu, _, k => exact ⟨_, rfl, u, false, rfl, .inr ⟨rfl, hu⟩, (fun z => by cases z), fun _ => k⟩
    | some (b1, ws1), none, ⟨q1, e1, h1, so1⟩, hv, k =>
      subst e1
      exact ⟨_, rfl, _, true, rfl, .inl ⟨rfl, q1, b1, ws1, rfl, h1, so1⟩, fun _ => ⟨_, rfl, v, false, rfl, .inr ⟨rfl, hv⟩, (fun z => by cases z), fun _ => k⟩, fun z => by cases z⟩
    | some (b1, ws1), some (b2, ws2), ⟨q1, e1, h1, so1⟩, ⟨q2, e2, h2, so2⟩, k =>
      subst e1 e2
      refine ⟨_, rfl, _, true, rfl, .inl ⟨rfl, q1, b1, ws1, rfl, h1, so1⟩, fun _ => ⟨_, rfl, _, true, rfl, .inl ⟨rfl, q2, b2, ws2, rfl, h2, so2⟩, fun _ => ?_, fun z => by cases z⟩, fun z => by cases z⟩
      refine ⟨_, rfl, _, rfl, q1, q2, b1, b2, ws1, ws2, rfl, h1, h2, so1, so2, _, _, rfl, rfl, _, rfl, ifd (fun c => k.1 c) (fun c => ?_)⟩
      have c : ¬ lcmF ws1 ws2 > 120 := c
      exact k.2 (by omega)
theorem ok_first_otherX (T : Tx w K mg) : Prom P w K mg base (L2.CX P w) 11 "first_other" s_first_other ["stack", "other_stack"] (spCmpX K (fun l => l ≠ 0) id) := by
  refine Prom.ofX T.d_first_other sc_first_other (fun vs H Q E h => ?_) (fun _ _ _ _ _ _ us hl => match us, hl with | [_, _], _ => rfl) (fun f cdv A outer s H vs Q E hr h => ?_)
  · obtain ⟨u, v, g1, g2, rfl, _⟩ := h
    rfl
  · obtain ⟨u, v, g1, g2, rfl, hu, hv, k⟩ := h
    refine ⟨_, (pss_cons (ps_expr (pe_callP (ok_check_bothX T) (hr.mono (by decide)) (by rfl) passX (pa_cons (pv 0) (pa_cons (pv 1) pa_nil))))
      (pss_one (ps_ret (pe_callP (ok_first_found T) (hr.mono (by decide)) (by rfl) pass0 (pa_cons (pv 0) (pa_cons (pv 1) (pa_cons (pe_glob (v := .ref (gf mg "rounds_to_other")) (by rfl) (gd_of T.d_rounds_to_other) rfl) pa_nil))))))), ?_⟩
    refine ⟨_, rfl, _, rfl, u, v, g1, g2, rfl, hu, hv, ?_⟩
    match g1, g2, hu, hv, k with
    | none, _, _, _, k => exact k
    | some _, none, _, _, k => exact k
    | some (b1, ws1), some (b2, ws2), ⟨q1, e1, h1, so1⟩, ⟨q2, e2, h2, so2⟩, k =>
      subst e1 e2
      refine ⟨k.1, fun l120 => ?_⟩
      obtain ⟨nh1, nh2, k2⟩ := k.2 l120
      exact ⟨_, rfl, _, rfl, q1, q2, _, b1, b2, ws1, ws2, roO, _, rfl, h1, h2, so1, so2, nh1, nh2, l120, roS_other T, roO_ok, rfl, k2⟩
theorem ok_first_longerX (T : Tx w K mg) : Prom P w K mg base (L2.CX P w) 11 "first_longer" s_first_longer ["stack", "other_stack"] (spCmpX K (fun l => 0 < l) id) := by
  refine Prom.ofX T.d_first_longer sc_first_longer (fun vs H Q E h => ?_) (fun _ _ _ _ _ _ us hl => match us, hl with | [_, _], _ => rfl) (fun f cdv A outer s H vs Q E hr h => ?_)
  · obtain ⟨u, v, g1, g2, rfl, _⟩ := h
    rfl
  · obtain ⟨u, v, g1, g2, rfl, hu, hv, k⟩ := h
    refine ⟨_, (pss_cons (ps_expr (pe_callP (ok_check_bothX T) (hr.mono (by decide)) (by rfl) passX (pa_cons (pv 0) (pa_cons (pv 1) pa_nil))))
      (pss_one (ps_ret (pe_callP (ok_first_found T) (hr.mono (by decide)) (by rfl) pass0 (pa_cons (pv 0) (pa_cons (pv 1) (pa_cons (pe_glob (v := .ref (gf mg "rounds_to_longer")) (by rfl) (gd_of T.d_rounds_to_longer) rfl) pa_nil))))))), ?_⟩
    refine ⟨_, rfl, _, rfl, u, v, g1, g2, rfl, hu, hv, ?_⟩
    match g1, g2, hu, hv, k with
    | none, _, _, _, k => exact k
    | some _, none, _, _, k => exact k
    | some (b1, ws1), some (b2, ws2), ⟨q1, e1, h1, so1⟩, ⟨q2, e2, h2, so2⟩, k =>
      subst e1 e2
      refine ⟨k.1, fun l120 => ?_⟩
      obtain ⟨nh1, nh2, k2⟩ := k.2 l120
      exact ⟨_, rfl, _, rfl, q1, q2, _, b1, b2, ws1, ws2, roL, _, rfl, h1, h2, so1, so2, nh1, nh2, l120, roS_longer T, roL_ok, rfl, k2⟩
theorem ok_alikeX (T : Tx w K mg) : Prom P w K mg base (L2.CX P w) 12 "alike" s_alike ["stack", "other_stack"] (spCmpX K (fun l => l ≠ 0) (fun v => .bl (decide (v = .non)))) := by
  refine Prom.ofX T.d_alike sc_alike (fun vs H Q E h => ?_) (fun _ _ _ _ _ _ us hl => match us, hl with | [_, _], _ => rfl) (fun f cdv A outer s H vs Q E hr h => ?_)
  · obtain ⟨u, v, g1, g2, rfl, _⟩ := h
    rfl
  · obtain ⟨u, v, g1, g2, rfl, hu, hv, k⟩ := h
    refine ⟨_, (pss_one (ps_ret (pe_cmpR op_isN (pe_callP (ok_first_otherX T) (hr.mono (by decide)) (by rfl) passX (pa_cons (pv 0) (pa_cons (pv 1) pa_nil))) pe_non (nomark _)))), ?_⟩
    exact ⟨_, rfl, _, rfl, u, v, g1, g2, rfl, hu, hv, k.mono fun b1 ws1 b2 ws2 z => ⟨z.1, z.2.1, fun r H' s hv => ⟨rfl, z.2.2 r H' s hv⟩⟩⟩
theorem ok_never_longerX (T : Tx w K mg) : Prom P w K mg base (L2.CX P w) 12 "never_longer" s_never_longer ["stack", "other_stack"] (spCmpX K (fun l => 0 < l) (fun v => .bl (decide (v = .non)))) := by
  refine Prom.ofX T.d_never_longer sc_never_longer (fun vs H Q E h => ?_) (fun _ _ _ _ _ _ us hl => match us, hl with | [_, _], _ => rfl) (fun f cdv A outer s H vs Q E hr h => ?_)
  · obtain ⟨u, v, g1, g2, rfl, _⟩ := h
    rfl
  · obtain ⟨u, v, g1, g2, rfl, hu, hv, k⟩ := h
    refine ⟨_, (pss_one (ps_ret (pe_cmpR op_isN (pe_callP (ok_first_longerX T) (hr.mono (by decide)) (by rfl) passX (pa_cons (pv 0) (pa_cons (pv 1) pa_nil))) pe_non (nomark _)))), ?_⟩
    exact ⟨_, rfl, _, rfl, u, v, g1, g2, rfl, hu, hv, k.mono fun b1 ws1 b2 ws2 z => ⟨z.1, z.2.1, fun r H' s hv => ⟨rfl, z.2.2 r H' s hv⟩⟩⟩
theorem ok_exchangeableX (T : Tx w K mg) : Prom P w K mg base (L2.CX P w) 5 "exchangeable" s_exchangeable ["stack"] (spNoStk K) := by
  refine Prom.ofX T.d_exchangeable sc_exchangeable (fun vs H Q E h => ?_) (fun _ _ _ _ _ _ us hl => match us, hl with | [_], _ => rfl) (fun f cdv A outer s H vs Q E hr h => ?_)
  · obtain ⟨v, rfl, _⟩ := h
    rfl
  · obtain ⟨v, rfl, hv, k⟩ := h
    refine ⟨_, (pss_cons (ps_expr (pe_callP (ok_check_stackX T) (hr.mono (by decide)) (by rfl) passX (pa_cons (pv 0) pa_nil)))
      pss_no), ?_⟩
    exact ⟨_, rfl, v, false, rfl, .inr ⟨rfl, hv⟩, (fun z => by cases z), fun _ => k⟩
theorem ok_idleX (T : Tx w K mg) : Prom P w K mg base (L2.CX P w) 5 "idle" s_idle ["stack"] (spNoStk K) := by
  refine Prom.ofX T.d_idle sc_idle (fun vs H Q E h => ?_) (fun _ _ _ _ _ _ us hl => match us, hl with | [_], _ => rfl) (fun f cdv A outer s H vs Q E hr h => ?_)
  · obtain ⟨v, rfl, _⟩ := h
    rfl
  · obtain ⟨v, rfl, hv, k⟩ := h
    refine ⟨_, (pss_cons (ps_expr (pe_callP (ok_check_stackX T) (hr.mono (by decide)) (by rfl) passX (pa_cons (pv 0) pa_nil)))
      pss_no), ?_⟩
    exact ⟨_, rfl, v, false, rfl, .inr ⟨rfl, hv⟩, (fun z => by cases z), fun _ => k⟩
end
/-! ### what is raised, or had -/
def dsC : List (Cl1 × Str) := [(⟨"NotAStack", "value", "Misfit", "ValueError"⟩, "Excess"), (⟨"TooFine", "limit", "Excess", "ArithmeticError"⟩, "Misfit")]
theorem gv_L_outcome {X : Cx} (T : Tx X.w X.K X.mg) (gd : X.A.guards = some []) (hr : Room 2 X.A) : Gives X ["_law_ask", "_law_had", "e", "_law_bases_right"] "_law_outcome" s_L_outcome "_law_ask" (TOutH X.K dsC) := by
  refine outH_gives (by decide) rfl rfl rfl T.ot (by decide) (fun d hd => ?_) (by decide) rfl T.b_repr (fun g cdg s H => ?_)
  · simp only [dsC, List.mem_cons, List.not_mem_nil, or_false] at hd
    rcases hd with rfl | rfl
    · exact T.nt.no ("NotAStack", "Excess") (by decide)
    · exact T.nt.no ("TooFine", "Misfit") (by decide)
  have hN : (["_law_ask", "_law_had", "e", "_law_bases_right"] : List Str).Nodup := by decide
  show ClOk _ _ [clN X.K (⟨"NotAStack", "value", "Misfit", "ValueError"⟩, "Excess"), clN X.K (⟨"TooFine", "limit", "Excess", "ArithmeticError"⟩, "Misfit")]
  refine .cons (i := 2) (test_name rfl T.k_NotAStack) rfl rfl (fun a oe cls d pn _ _ => ?_) ?_
  · refine pss_cons (ps_set (i := 3) hN rfl (.inl rfl) ?_) (pss_one (ps_ret (pe_lst (pa_cons pe_str (pa_cons (pe_xfP (a := a) (oe := oe) (List.mem_cons_self ..) (pe_var (i := 2) rfl (.inl rfl))) (pa_cons (pe_var (i := 3) rfl (.inl rfl)) pa_nil))))))
    refine pe_and ?_ (pe_and ?_ (pe_one (pe_not ?_)))
    · exact pe_callB (call_isP (a := a) (oe := oe) (List.mem_cons_self ..)) rfl T.b_isinstance (by decide +kernel) (pa_cons (pe_var (i := 2) rfl (.inl rfl)) (pa_cons (pe_glob (v := .ref _) rfl T.k_Misfit rfl) pa_nil))
    · exact pe_callB (call_isP (a := a) (oe := oe) (List.mem_cons_self ..)) rfl T.b_isinstance (by decide +kernel) (pa_cons (pe_var (i := 2) rfl (.inl rfl)) (pa_cons (pe_bltn (v := .ty "ValueError") rfl T.b_ValueError (by decide +kernel) rfl) pa_nil))
    · exact pe_callB (call_isP (a := a) (oe := oe) (List.mem_cons_self ..)) rfl T.b_isinstance (by decide +kernel) (pa_cons (pe_var (i := 2) rfl (.inl rfl)) (pa_cons (pe_glob (v := .ref _) rfl T.k_Excess rfl) pa_nil))
  refine .cons (i := 2) (test_name rfl T.k_TooFine) rfl rfl (fun a oe cls d pn _ _ => ?_) ?_
  · refine pss_cons (ps_set (i := 3) hN rfl (.inl rfl) ?_) (pss_one (ps_ret (pe_lst (pa_cons pe_str (pa_cons (pe_xfP (a := a) (oe := oe) (List.mem_cons_self ..) (pe_var (i := 2) rfl (.inl rfl))) (pa_cons (pe_var (i := 3) rfl (.inl rfl)) pa_nil))))))
    refine pe_and ?_ (pe_and ?_ (pe_one (pe_not ?_)))
    · exact pe_callB (call_isP (a := a) (oe := oe) (List.mem_cons_self ..)) rfl T.b_isinstance (by decide +kernel) (pa_cons (pe_var (i := 2) rfl (.inl rfl)) (pa_cons (pe_glob (v := .ref _) rfl T.k_Excess rfl) pa_nil))
    · exact pe_callB (call_isP (a := a) (oe := oe) (List.mem_cons_self ..)) rfl T.b_isinstance (by decide +kernel) (pa_cons (pe_var (i := 2) rfl (.inl rfl)) (pa_cons (pe_bltn (v := .ty "ArithmeticError") rfl T.b_ArithmeticError (by decide +kernel) rfl) pa_nil))
    · exact pe_callB (call_isP (a := a) (oe := oe) (List.mem_cons_self ..)) rfl T.b_isinstance (by decide +kernel) (pa_cons (pe_var (i := 2) rfl (.inl rfl)) (pa_cons (pe_glob (v := .ref _) rfl T.k_Misfit rfl) pa_nil))
  exact .nil
/-! ### the law's own: what both finenesses have in common, the first lead above 0 -/
def spLShared : Sp := fun vs H Q _ => ∃ x y : Int, vs = [.int x, .int y] ∧ 1 ≤ x ∧ 1 ≤ y ∧ y ≤ 120 ∧ x ≤ 120 ∧ Q (.int ((Int.lcm x y : Nat) : Int)) H
section
variable {P : Program} {w : World} {K : PySem.W.Frag} {mg : Str → Option Value} {base : Heap}
theorem ok_L_shared (T : Tx w K mg) : Prom P w K mg base CX0 1 "_law_shared" s_L_shared ["_law_one", "_law_two_here"] spLShared := by
  refine Prom.of T.d_L_shared sc_L_shared (fun vs H Q E h => ?_) (fun _ _ _ _ _ _ us hl => match us, hl with | [_, _], _ => rfl) (fun f cdv A outer s H vs Q E hr h => ?_)
  · obtain ⟨x, y, rfl, _⟩ := h
    rfl
  · obtain ⟨x, y, rfl, x0, y0, y1, x1, k⟩ := h
    refine ⟨_, (pss_cons (ps_par (i := 2) (j := 3) (by rfl) sc_L_shared.nd rfl rfl (by decide) rfl rfl (pa_cons (pv 0) (pa_cons (pv 1) pa_nil)) (by rfl))
      (pss_cons (ps_while PassesOwn.never (pt_cmp (pc_gt (pv 3) pe_int)) (pss_one (ps_par (i := 2) (j := 3) (by rfl) sc_L_shared.nd rfl rfl (by decide) rfl rfl (pa_cons (pv 3) (pa_cons (pe_op op_mod (pe_callTy call_int1 (by rfl) T.b_int (by decide +kernel) (pa_cons (pv 2) pa_nil)) (pv 3)) pa_nil)) (by rfl))))
      (pss_one (ps_ret (pe_op op_mul (pe_op op_fdiv (pv 0) (pv 2)) (pv 1)))))), ?_⟩
    refine ⟨_, rfl, _, rfl, _, _, rfl, ?_⟩
    refine ⟨fun m σ H1 => H1 = H ∧ ∃ a c : Int, σ = [some (.int x), some (.int y), some (.int a), some (.int c)] ∧ 1 ≤ a ∧ 0 ≤ c ∧ c ≤ y ∧ (∀ e, e ∣ a → e ∣ c → e ∣ x ∧ e ∣ y) ∧ (∀ e, e ∣ x → e ∣ y → e ∣ a ∧ e ∣ c) ∧ m = c.toNat, ⟨y.toNat, rfl, x, y, rfl, x0, by omega, Int.le_refl _, fun e h1 h2 => ⟨h1, h2⟩, fun e h1 h2 => ⟨h1, h2⟩, rfl⟩, ?_⟩
    rintro m σ H1 ⟨rfl, a, c, rfl, a0, c0, cy, dv, dw, rfl⟩
    refine ⟨_, rfl, _, _, rfl, rfl, _, rfl, ifd (fun hc => ?_) (fun hc => ?_)⟩
    · have hc : 0 < c := hc
      have m0 := Int.emod_nonneg a (show c ≠ 0 by omega)
      have m1 := Int.emod_lt_of_pos a hc
      refine ⟨_, fun _ _ h => h, ?_⟩
      refine ⟨_, rfl, _, rfl, .inl ⟨_, rfl, _, rfl, _, _, rfl, rfl, hc, _, _, rfl, ?_⟩⟩
      refine ⟨(a % c).toNat, ?_, rfl, c, a % c, rfl, hc, m0, by omega, fun e h1 h2 => dv e ?_ h1, fun e h1 h2 => ⟨(dw e h1 h2).2, ?_⟩, rfl⟩
      · show (a % c).toNat < c.toNat
        omega
      · have h3 := Int.dvd_add (Int.dvd_trans h1 (Int.dvd_mul_right c (a / c))) h2
        rwa [Int.mul_ediv_add_emod] at h3
      · obtain ⟨h3, h4⟩ := dw e h1 h2
        rw [show a % c = a - c * (a / c) by have := Int.mul_ediv_add_emod a c; omega]
        exact Int.dvd_sub h3 (Int.dvd_trans h4 (Int.dvd_mul_right c (a / c)))
    · have hc : ¬ 0 < c := hc
      have e0 : c = 0 := by omega
      have dv := dv a (Int.dvd_refl a) (by rw [e0]; exact Int.dvd_zero a)
      have dg := fun e h1 h2 => (dw e h1 h2).1
      have ay := Int.le_of_dvd (by omega) dv.2
      have q0 : 0 ≤ x / a := Int.ediv_nonneg (by omega) (by omega)
      have q1 : x / a ≤ x := Int.ediv_le_self _ (by omega)
      refine ⟨_, rfl, _, rfl, _, _, rfl, rfl, ⟨by omega, by omega⟩, _, rfl, _, _, rfl, rfl, .inl ⟨by omega, by omega⟩, ?_⟩
      rw [← lcm_value x0 y0 a0 dv.1 dv.2 dg] at k
      exact k
end
/-! ### the law's own: two wraps of drawn finenesses -/
def spTwo33 : Sp := fun vs H Q _ => ∃ (p : Addr), vs = [.ref p] ∧ PurseAt H p ∧ ∀ l xs ws H', NoHead ws → (∀ a ∈ ws, a.ok) → ws.length = 2 → fineL ws ≤ 120 → H l = none → Drew p H H' → H' l = some (.lst xs) → PlansAt H' xs ws → Q (.ref l) H'
section
variable {P : Program} {w : World} {K : PySem.W.Frag} {mg : Str → Option Value} {base : Heap}
theorem ok_L_two (T : Tx w K mg) : Prom P w K mg base CX0 4 "_law_two" s_L_two ["_law_bowl_here"] spTwo33 := by
  refine Prom.of T.d_L_two sc_L_two (fun vs H Q E h => ?_) (fun _ _ _ _ _ _ us hl => match us, hl with | [_], _ => rfl) (fun f cdv A outer s H vs Q E hr h => ?_)
  · obtain ⟨p, rfl, _⟩ := h
    rfl
  · obtain ⟨p, rfl, hp, k⟩ := h
    refine ⟨_, (pss_cons (ps_set (i := 1) sc_L_two.nd rfl (Or.inl rfl) (pe_op op_add pe_int (pe_callP (ok_L_scoop T) (hr.mono (by decide)) (by rfl) pass0 (pa_cons (pv 0) (pa_cons pe_int pa_nil)))))
      (pss_cons (ps_set (i := 2) sc_L_two.nd rfl (Or.inl rfl) (pe_op op_add pe_int (pe_callP (ok_L_scoop T) (hr.mono (by decide)) (by rfl) pass0 (pa_cons (pv 0) (pa_cons (pe_callB (call_min2 rfl) (by rfl) T.b_min (by decide +kernel) (pa_cons pe_int (pa_cons (pe_op op_fdiv pe_int (pv 1)) pa_nil))) pa_nil)))))
      (pss_one (ps_ret (pe_lst (pa_cons (pe_lst (pa_cons pe_str (pa_cons (pv 1) (pa_cons pe_int pa_nil)))) (pa_cons (pe_callP (ok_L_one_of T) (hr.mono (by decide)) (by rfl) pass0 (pa_cons (pv 0) (pa_cons (pe_lst (pa_cons (pe_lst (pa_cons pe_str (pa_cons (pv 2) pa_nil))) (pa_cons (pe_lst (pa_cons pe_str (pa_cons (pv 2) (pa_cons pe_int pa_nil)))) (pa_cons (pe_lst (pa_cons pe_str (pa_cons (pv 2) (pa_cons pe_int pa_nil)))) pa_nil)))) pa_nil))) pa_nil))))))), ?_⟩
    refine ⟨_, rfl, p, 60, rfl, hp, by decide, by decide, fun c H1 c0 c1 d1 => ⟨_, _, rfl, rfl, ?_⟩⟩
    have q1 : 1 ≤ 120 / (1 + c) := Int.le_ediv_of_mul_le (by omega) (by omega)
    have m0 : 1 ≤ (if 120 / (1 + c) < 60 then 120 / (1 + c) else 60) ∧ (if 120 / (1 + c) < 60 then 120 / (1 + c) else 60) ≤ 60 ∧ (if 120 / (1 + c) < 60 then 120 / (1 + c) else 60) ≤ 120 / (1 + c) := by split <;> omega
    refine gn ?_
    refine ⟨_, rfl, _, rfl, _, _, rfl, rfl, ⟨by omega, by omega⟩, _, _, rfl, p, _, rfl, d1.at_, by omega, by omega, fun c2 H2 c20 c21 d2 => ⟨_, _, rfl, rfl, gn ?_⟩⟩
    have D2 := d1.trans d2
    refine st_eq [some (.ref p), some (.int (1 + c)), some (.int (1 + c2))] rfl ?_
    have o1 : 1 + c2 ≤ 60 ∧ 1 + c2 ≤ 120 / (1 + c) := by omega
    refine ⟨_, rfl, (by show 3 ≤ sizeLine; decide), fun e1 he1 => ⟨_, rfl, _, rfl, (by show 2 ≤ sizeLine; decide), fun e2 he2 => ⟨_, rfl, (by show 3 ≤ sizeLine; decide), fun e3 he3 => ⟨_, rfl, (by show 3 ≤ sizeLine; decide), fun e4 he4 => ⟨(by show 3 ≤ sizeLine; decide), fun L hL => ?_⟩⟩⟩⟩⟩
    have t1 := up (o := .lst [V.str "cut", V.int (1 + c), V.int 0]) he1
    have g1 : PlanAt (upd H2 e1 (.lst [V.str "cut", V.int (1 + c), V.int 0])) e1 (.cut (1 + c) 0) := upd_same
    have t2 := up (o := .lst [V.str "filled", V.int (1 + c2)]) he2
    have g2 : PlanAt (upd (upd H2 e1 (.lst [V.str "cut", V.int (1 + c), V.int 0])) e2 (.lst [V.str "filled", V.int (1 + c2)])) e2 (.filled (1 + c2)) := upd_same
    have t3 := up (o := .lst [V.str "cut", V.int (1 + c2), V.int 1]) he3
    have g3 : PlanAt (upd (upd (upd H2 e1 (.lst [V.str "cut", V.int (1 + c), V.int 0])) e2 (.lst [V.str "filled", V.int (1 + c2)])) e3 (.lst [V.str "cut", V.int (1 + c2), V.int 1])) e3 (.cut (1 + c2) 1) := upd_same
    have t4 := up (o := .lst [V.str "pieces", V.int (1 + c2), V.int 0]) he4
    have g4 : PlanAt (upd (upd (upd (upd H2 e1 (.lst [V.str "cut", V.int (1 + c), V.int 0])) e2 (.lst [V.str "filled", V.int (1 + c2)])) e3 (.lst [V.str "cut", V.int (1 + c2), V.int 1])) e4 (.lst [V.str "pieces", V.int (1 + c2), V.int 0])) e4 (.pieces (1 + c2) 0) := upd_same
    have D3 := D2.same (((t1.trans t2).trans t3).trans t4)
    have t5 := up (o := .lst [V.ref e2, V.ref e3, V.ref e4]) hL
    have D4 := D3.same t5
    refine ⟨p, L, _, rfl, D4.at_, D3.ne hL, upd_same, (show 0 < 3 by decide), (show 3 ≤ 1000 by decide), fun j x G hx d5 => ⟨(by show 2 ≤ sizeLine; decide), fun l hl => ?_⟩⟩
    have f1 : PlanAt G e1 (.cut (1 + c) 0) := d5.plan D4.at_ (t5 _ _ (t4 _ _ (t3 _ _ (t2 _ _ g1))))
    have f2 : PlanAt G e2 (.filled (1 + c2)) := d5.plan D4.at_ (t5 _ _ (t4 _ _ (t3 _ _ g2)))
    have f3 : PlanAt G e3 (.cut (1 + c2) 1) := d5.plan D4.at_ (t5 _ _ (t4 _ _ g3))
    have f4 : PlanAt G e4 (.pieces (1 + c2) 0) := d5.plan D4.at_ (t5 _ _ g4)
    have D5 := D4.trans d5
    have fin : ∀ (e : Addr) (a : Wr), x = .ref e → PlanAt G e a → a.ok → isHead a = false → a.use = 1 + c2 → Q (.ref l) (upd G l (.lst [.ref e1, x])) := fun e a ex pa oa ha ua => by
      have sl := up (o := .lst [.ref e1, x]) hl
      rw [ex] at sl ⊢
      refine k l [.ref e1, .ref e] [.cut (1 + c) 0, a] _ (fun b hb => ?_) (fun b hb => ?_) rfl ?_ (by
        have := D5
        refine Classical.byContradiction fun n => ?_
        cases hh : H l with
        | none => exact n hh
        | some o =>
          have e := this.kp l o (fun z => by
            have := D5.ne hl
            exact this z) hh
          rw [hl] at e
          cases e) (D5.same sl) upd_same (.cons (sl _ _ f1) (.cons (sl _ _ pa) .nil))
      · simp only [List.mem_cons, List.not_mem_nil, or_false] at hb
        rcases hb with rfl | rfl
        · rfl
        · exact ha
      · simp only [List.mem_cons, List.not_mem_nil, or_false] at hb
        rcases hb with rfl | rfl
        · exact ⟨by omega, by omega, by decide, by decide⟩
        · exact oa
      · rw [fine_cons, fine_cons, ua]
        show (1 + c) * ((1 + c2) * 1) ≤ 120
        rw [Int.mul_one]
        have h1 := Int.mul_le_mul_of_nonneg_left o1.2 (show 0 ≤ 1 + c by omega)
        have h2 : (1 + c) * (120 / (1 + c)) ≤ 120 := by rw [Int.mul_comm]; exact Int.ediv_mul_le 120 (by omega)
        omega
    match j, hx with
    | 0, hx => exact fin e2 _ (Option.some.inj hx).symm f2 ⟨by omega, by omega⟩ rfl rfl
    | 1, hx => exact fin e3 _ (Option.some.inj hx).symm f3 ⟨by omega, by omega, by decide, by decide⟩ rfl rfl
    | 2, hx => exact fin e4 _ (Option.some.inj hx).symm f4 ⟨by omega, by omega, by decide, by decide⟩ rfl rfl
    | n + 3, hx => exact absurd hx (by simp)
end
/-! ### the law's own: what the four of two stacks return or raise -/
def rowX (u v : V) : Option (Int × List Wr) → Option (Int × List Wr) → (Int → List Wr → Int → List Wr → List V → Prop) → List V → Prop
  | none, _, _, row => row = [.str "NotAStack", u, .bl true]
  | some _, none, _, row => row = [.str "NotAStack", v, .bl true]
  | some (b1, ws1), some (b2, ws2), P, row => (120 < lcmF ws1 ws2 → row = [.str "TooFine", .int 120, .bl true]) ∧ (lcmF ws1 ws2 ≤ 120 → P b1 ws1 b2 ws2 row)
def hadF (C : Int → Prop) (g : V → V) (b1 : Int) (ws1 : List Wr) (b2 : Int) (ws2 : List Wr) (row : List V) : Prop := ∃ r z, IsFst C (leadF b1 ws1 b2 ws2) r ∧ flatShown (g r) = some z ∧ row = [.str "had", .str z]
def FourAt (H : Hp) (u v : V) (g1 g2 : Option (Int × List Wr)) (l : Addr) : Prop := ∃ (r1 r2 r3 r4 : Addr) (w1 w2 w3 w4 : List V), H l = some (.lst [.ref r1, .ref r2, .ref r3, .ref r4]) ∧ H r1 = some (.lst w1) ∧ H r2 = some (.lst w2) ∧ H r3 = some (.lst w3) ∧ H r4 = some (.lst w4) ∧
  rowX u v g1 g2 (hadF (fun l => l ≠ 0) id) w1 ∧ rowX u v g1 g2 (hadF (fun l => l ≠ 0) (fun v => .bl (decide (v = .non)))) w2 ∧ rowX u v g1 g2 (hadF (fun l => 0 < l) id) w3 ∧ rowX u v g1 g2 (hadF (fun l => 0 < l) (fun v => .bl (decide (v = .non)))) w4
def spFour (K : PySem.W.Frag) : Sp := fun vs H Q _ => ∃ (u v : V) (g1 g2 : Option (Int × List Wr)), vs = [u, v] ∧ LamX.Tabs (tabsOf K) H ∧ (∀ G, LamX.ExtN H G → SArg K G u g1) ∧ (∀ G, LamX.ExtN H G → SArg K G v g2) ∧ (∀ b1 ws1 b2 ws2, g1 = some (b1, ws1) → g2 = some (b2, ws2) → NoHead ws1 ∧ NoHead ws2) ∧
  ∀ l H', LamX.ExtN H H' → LamX.Tabs (tabsOf K) H' → FourAt H' u v g1 g2 l → Q (.ref l) H'
theorem least_of : ∀ (x : Int) (xs : List Int), ∃ m ∈ x :: xs, ∀ y ∈ x :: xs, m ≤ y
  | x, [] => ⟨x, .head _, fun y hy => by rw [List.mem_singleton.mp hy]; exact Int.le_refl _⟩
  | x, z :: xs => by
    obtain ⟨m, hm, hl⟩ := least_of z xs
    by_cases c : x ≤ m
    · refine ⟨x, .head _, fun y hy => ?_⟩
      rcases List.mem_cons.mp hy with rfl | h
      · exact Int.le_refl _
      · exact Int.le_trans c (hl y h)
    · refine ⟨m, .tail _ hm, fun y hy => ?_⟩
      rcases List.mem_cons.mp hy with rfl | h
      · omega
      · exact hl y h
/-- what is found first is no great number -/
theorem first_small {R : Int → Int → Option Int} {C : Int → Prop} (ok : RoOk R C) {b1 b2 : Int} {ws1 ws2 : List Wr} (so1 : StkOk b1 ws1) (so2 : StkOk b2 ws2) (nh1 : NoHead ws1) (nh2 : NoHead ws2) (l120 : lcmF ws1 ws2 ≤ 120) {v : V} (h : IsFst C (leadF b1 ws1 b2 ws2) v) : v = .non ∨ ∃ n : Int, v = .int n ∧ 0 ≤ n ∧ n < 10 ^ 70 := by
  have M1 := lcm_pos so1.ok so2.ok
  obtain ⟨M, hM⟩ : ∃ M : Nat, lcmF ws1 ws2 = (M : Nat) := ⟨(lcmF ws1 ws2).toNat, by omega⟩
  obtain ⟨G, hG⟩ := lead_shift (b1 := b1) (b2 := b2) so1.ok so2.ok nh1 nh2
  rw [hM] at hG l120 M1
  have nr := foundR_near ok (f := leadF b1 ws1 b2 ws2) (g := G) (M := M) (i := M) (B := 2 ^ 60) (by omega) (Nat.le_refl M) (fun p pM => lead_small so1 so2 (by omega) (by omega))
  have fst := fun n h1 h2 => foundR_fst ok (f := leadF b1 ws1 b2 ws2) (g := G) (M := M) (by omega) hG (n := n) h1 h2
  have fno := fun h => foundR_none ok (f := leadF b1 ws1 b2 ws2) (g := G) (M := M) (by omega) hG h
  generalize foundR R (leadF b1 ws1 b2 ws2) G M M = fs at nr fst fno
  cases fs with
  | nil => exact .inl (h.uniq (fno rfl))
  | cons f0 fr =>
    obtain ⟨m, hm, hl⟩ := least_of f0 fr
    have mb := nr m hm
    have small : (120 : Int) * (((2 ^ 60 : Nat) : Int) + 2) < 10 ^ 70 := by decide
    exact .inr ⟨m, h.uniq (fst m hm hl), mb.1, by omega⟩
theorem flat_int {i : Int} (h0 : 0 ≤ i) (h1 : i < 10 ^ 70) : flatShown (.int i) = some (toString i : Str) := if_pos (log2_small h0 h1)
/-- one of the four, however the call is told -/
theorem lam_four {K : PySem.W.Frag} {tt : XK → TE} {σ : L2.St} {H : Hp} {Q : VK} {u v : V} {g1 g2 : Option (Int × List Wr)} {R : Int → Int → Option Int} {C : Int → Prop} {g : V → V} (ok : RoOk R C) (hg : ∀ r, (r = .non ∨ ∃ n : Int, r = .int n ∧ 0 ≤ n ∧ n < 10 ^ 70) → ∃ z, flatShown (g r) = some z)
    (ha : ∀ E G Q', spCmpX K C g [u, v] G Q' E → tt E σ G Q') (hT : LamX.Tabs (tabsOf K) H) (hu : ∀ G, LamX.ExtN H G → SArg K G u g1) (hv : ∀ G, LamX.ExtN H G → SArg K G v g2) (nh : ∀ b1 ws1 b2 ws2, g1 = some (b1, ws1) → g2 = some (b2, ws2) → NoHead ws1 ∧ NoHead ws2)
    (k : ∀ l row H', LamX.ExtN H H' → LamX.Tabs (tabsOf K) H' → (∀ a xs, H a = some (.lst xs) → a ≠ l) → H' l = some (.lst row) → rowX u v g1 g2 (hadF C g) row → Q (.ref l) H') : LamX.tLam (tabsOf K) (TOutH K dsC) tt σ H Q := by
  refine ⟨hT, fun G en hT1 => ?_⟩
  have fr : ∀ {G' : Hp} {l : Addr}, Same G G' → G' l = none → ∀ a xs, H a = some (.lst xs) → a ≠ l := fun s hl a xs h z => by
    rw [← z, s _ _ (en _ _ h (fun ps z => by cases z))] at hl
    cases hl
  have ex : ∀ {G' : Hp}, Same G G' → LamX.ExtN H G' := fun s b o h z => s _ _ (en b o h z)
  have hu1 := hu G en
  have hv1 := hv G en
  refine ha _ G _ ⟨u, v, g1, g2, rfl, hu1, hv1, ?_⟩
  match g1, g2, hu1, hv1, nh, k with
  | none, _, _, _, _, k =>
    refine fun dd hdd => ⟨_, .head _, rfl, dd, u, rfl, upd_same, fun l hl => ?_⟩
    have s1 := up (H' := G) (o := .xd [("value", u)]) hdd
    have s2 := s1.trans (up (o := .lst [.str "NotAStack", u, .bl true]) hl)
    exact k l _ _ (ex s2) (hT1.ext s2) (fr s1 hl) upd_same rfl
  | some _, none, _, _, _, k =>
    refine fun dd hdd => ⟨_, .head _, rfl, dd, v, rfl, upd_same, fun l hl => ?_⟩
    have s1 := up (H' := G) (o := .xd [("value", v)]) hdd
    have s2 := s1.trans (up (o := .lst [.str "NotAStack", v, .bl true]) hl)
    exact k l _ _ (ex s2) (hT1.ext s2) (fr s1 hl) upd_same rfl
  | some (b1, ws1), some (b2, ws2), ⟨q1, _, _, so1⟩, ⟨q2, _, _, so2⟩, nh, k =>
    obtain ⟨nh1, nh2⟩ := nh b1 ws1 b2 ws2 rfl rfl
    refine ⟨fun gt dd hdd => ⟨_, .tail _ (.head _), rfl, dd, .int 120, rfl, upd_same, fun l hl => ?_⟩, fun le => ⟨nh1, nh2, fun r H' s hr => ?_⟩⟩
    · have s1 := up (H' := G) (o := .xd [("limit", V.int 120)]) hdd
      have s2 := s1.trans (up (o := .lst [.str "TooFine", .int 120, .bl true]) hl)
      exact k l _ _ (ex s2) (hT1.ext s2) (fr s1 hl) upd_same ⟨fun _ => rfl, fun z => absurd z (by omega)⟩
    · obtain ⟨z, hz⟩ := hg r (first_small ok so1 so2 nh1 nh2 le hr)
      refine ⟨z, hz, fun l hl => ?_⟩
      have s2 := s.trans (up (o := .lst [.str "had", .str z]) hl)
      exact k l _ _ (ex s2) (hT1.ext s2) (fr s hl) upd_same ⟨fun y => absurd y (by omega), fun _ => ⟨r, z, hr, hz, rfl⟩⟩
theorem flat_id (r : V) (h : r = .non ∨ ∃ n : Int, r = .int n ∧ 0 ≤ n ∧ n < 10 ^ 70) : ∃ z, flatShown (id r) = some z := by
  rcases h with rfl | ⟨n, rfl, h0, h1⟩
  · exact ⟨_, rfl⟩
  · exact ⟨_, flat_int h0 h1⟩
theorem flat_bl (r : V) (h : r = .non ∨ ∃ n : Int, r = .int n ∧ 0 ≤ n ∧ n < 10 ^ 70) : ∃ z, flatShown (.bl (decide (r = .non))) = some z := ⟨_, rfl⟩
theorem extN_trans {H G F : Hp} (a : LamX.ExtN H G) (b : LamX.ExtN G F) : LamX.ExtN H F := fun x o h z => b x o (a x o h z) z
theorem extN_same {H G F : Hp} (a : LamX.ExtN H G) (b : Same G F) : LamX.ExtN H F := fun x o h z => b x o (a x o h z)
theorem tabs_lst {T : List (Addr × Str)} {D : Addr} {H : Hp} {xs ys : List V} (hD : H D = some (.lst xs)) (t : LamX.Tabs T H) : LamX.Tabs T (upd H D (.lst ys)) := fun q hq => by
  obtain ⟨ps, h1, h2, h3⟩ := t q hq
  refine ⟨ps, by rw [upd_ne (fun z => by rw [z, hD] at h1; cases h1)]; exact h1, h2, fun pos cv hc => ?_⟩
  obtain ⟨c, e1, e2⟩ := h3 pos cv hc
  exact ⟨c, e1, by rw [upd_ne (fun z => by rw [z, hD] at e2; cases e2)]; exact e2⟩
section
variable {P : Program} {w : World} {K : PySem.W.Frag} {mg : Str → Option Value} {base : Heap}
theorem ok_L_four (T : Tx w K mg) (U : UT K mg base) : PromG P w K mg base 17 "_law_four" s_L_four ["_law_one", "_law_two_here"] (spFour K) := by
  refine PromG.ofT T.dt_L_four sc_L_four (fun vs H Q E h => ?_) (fun _ _ _ _ _ _ us hl => match us, hl with | [_, _], _ => rfl) (fun f A outer s H vs Q E hr hgd h => ?_)
  · obtain ⟨u, v, g1, g2, rfl, _⟩ := h
    rfl
  · obtain ⟨u, v, g1, g2, rfl, hT, hu, hv, nh, k⟩ := h
    refine ⟨_, (pss_cons (ps_set (i := 2) sc_L_four.nd rfl (Or.inl rfl) (pe_lst (pa_cons (pe_lamP (T := tabsOf K) (k := 14) T.d_L_outcome (by rfl) sc_L_outcome (fun _ _ _ _ _ _ us hl => match us, hl with | [_], _ => rfl) rfl (.inl rfl) (gv_L_outcome T hgd (hr.mono (by decide))) (U _ (List.mem_of_getElem? (i := 0) rfl)) rfl (List.mem_of_getElem? (i := 0) rfl) (tabs_u_L_four T) (hr.mono (by decide)) (LamX.lamS_by (sc := defScope s_L_four) (by decide +kernel)) (fun A1 o1 s1 H1 E1 f1 c1 hr => (pe_callP (ok_first_otherX T) (hr.mono (by decide)) (gl_lam (by decide +kernel)) LamX_pass (pa_cons (pv 0) (pa_cons (pv 1) pa_nil))))) pa_nil)))
      (pss_cons (ps_expr (pe_bm PySem.F.plainAttrs_list PySem.F.slot_list_append PySem.F.type_list_append mt_append (pv 2) (pa_cons (pe_lamP (T := tabsOf K) (k := 14) T.d_L_outcome (by rfl) sc_L_outcome (fun _ _ _ _ _ _ us hl => match us, hl with | [_], _ => rfl) rfl (.inl rfl) (gv_L_outcome T hgd (hr.mono (by decide))) (U _ (List.mem_of_getElem? (i := 0) rfl)) rfl (List.mem_of_getElem? (i := 0) rfl) (tabs_u_L_four T) (hr.mono (by decide)) (LamX.lamS_by (sc := defScope s_L_four) (by decide +kernel)) (fun A1 o1 s1 H1 E1 f1 c1 hr => (pe_callKP (ok_alikeX T) (hr.mono (by decide)) (gl_lam (by decide +kernel)) (ks := ["other_stack", "stack"]) (kb_of [1, 0] (by decide) (fun _ _ _ _ _ _ ws hl => match ws, hl with | [_, _], _ => rfl)) LamX_pass (pk_cons (pv 1) (pk_cons (pv 0) pk_nil))))) pa_nil)))
      (pss_cons (ps_expr (pe_bm PySem.F.plainAttrs_list PySem.F.slot_list_append PySem.F.type_list_append mt_append (pv 2) (pa_cons (pe_lamP (T := tabsOf K) (k := 14) T.d_L_outcome (by rfl) sc_L_outcome (fun _ _ _ _ _ _ us hl => match us, hl with | [_], _ => rfl) rfl (.inl rfl) (gv_L_outcome T hgd (hr.mono (by decide))) (U _ (List.mem_of_getElem? (i := 0) rfl)) rfl (List.mem_of_getElem? (i := 0) rfl) (tabs_u_L_four T) (hr.mono (by decide)) (LamX.lamS_by (sc := defScope s_L_four) (by decide +kernel)) (fun A1 o1 s1 H1 E1 f1 c1 hr => (pe_callKP (ok_first_longerX T) (hr.mono (by decide)) (gl_lam (by decide +kernel)) (ks := ["stack", "other_stack"]) (kb_of [0, 1] (by decide) (fun _ _ _ _ _ _ ws hl => match ws, hl with | [_, _], _ => rfl)) LamX_pass (pk_cons (pv 0) (pk_cons (pv 1) pk_nil))))) pa_nil)))
      (pss_one (ps_ret (pe_op op_cat (pv 2) (pe_lst (pa_cons (pe_lamP (T := tabsOf K) (k := 14) T.d_L_outcome (by rfl) sc_L_outcome (fun _ _ _ _ _ _ us hl => match us, hl with | [_], _ => rfl) rfl (.inl rfl) (gv_L_outcome T hgd (hr.mono (by decide))) (U _ (List.mem_of_getElem? (i := 0) rfl)) rfl (List.mem_of_getElem? (i := 0) rfl) (tabs_u_L_four T) (hr.mono (by decide)) (LamX.lamS_by (sc := defScope s_L_four) (by decide +kernel)) (fun A1 o1 s1 H1 E1 f1 c1 hr => (pe_callP (ok_never_longerX T) (hr.mono (by decide)) (gl_lam (by decide +kernel)) LamX_pass (pa_cons (pv 0) (pa_cons (pv 1) pa_nil))))) pa_nil)))))))), ?_⟩
    refine lam_four roO_ok flat_id (fun E G Q' h => ⟨_, rfl, _, rfl, h⟩) hT hu hv nh (fun r1 w1 H1 x1 T1 _ h1 p1 => ?_)
    refine ⟨(by show 1 ≤ sizeLine; decide), fun F hF => gn ?_⟩
    have s1 := up (o := .lst [.ref r1]) hF
    have n1 : r1 ≠ F := fun z => by
      rw [← z, h1] at hF
      cases hF
    have hF1 : (upd H1 F (.lst [.ref r1])) F = some (.lst [.ref r1]) := upd_same
    have nF : ∀ a o, H a = some o → (∀ ps, o ≠ .tbl ps) → a ≠ F := fun a o h z e => by
      rw [← e, x1 a o h z] at hF
      cases hF
    have h1 := s1 _ _ h1
    have x1 := extN_same x1 s1
    have T1 := T1.ext s1
    refine hp_eq (upd H1 F (.lst [.ref r1])) rfl ?_
    generalize (upd H1 F (.lst [.ref r1])) = H2 at h1 x1 T1 hF1 ⊢
    refine st_eq [some u, some v, some (.ref F)] rfl ?_
    refine ⟨_, rfl, .inl ⟨rfl, _, SqL.of hF1⟩, lam_four roO_ok flat_bl (fun E G Q' h => ⟨_, rfl, _, rfl, h⟩) T1 (fun G e => hu G (extN_trans x1 e)) (fun G e => hv G (extN_trans x1 e)) nh (fun r2 w2 H3 x3 T3 n2 h2 p2 => ?_)⟩
    have n2 := n2 _ _ hF1
    refine ⟨F, _, _, rfl, rfl, x3 _ _ hF1 (fun ps z => by cases z), (by show 1 < sizeLine; decide), ?_⟩
    have x4 : LamX.ExtN H (upd H3 F (.lst ([.ref r1] ++ [.ref r2]))) := fun b o h z => by
      rw [upd_ne (nF b o h z)]
      exact x3 b o (x1 b o h z) z
    have T4 : LamX.Tabs (tabsOf K) (upd H3 F (.lst ([.ref r1] ++ [.ref r2]))) := tabs_lst (x3 _ _ hF1 (fun ps z => by cases z)) T3
    have hF4 : (upd H3 F (.lst ([.ref r1] ++ [.ref r2]))) F = some (.lst [.ref r1, .ref r2]) := upd_same
    have h1 : (upd H3 F (.lst ([.ref r1] ++ [.ref r2]))) r1 = some (.lst w1) := by
      rw [upd_ne n1]
      exact x3 _ _ h1 (fun ps z => by cases z)
    have h2 : (upd H3 F (.lst ([.ref r1] ++ [.ref r2]))) r2 = some (.lst w2) := by
      rw [upd_ne n2.symm]
      exact h2
    generalize (upd H3 F (.lst ([.ref r1] ++ [.ref r2]))) = H4 at x4 T4 hF4 h1 h2 ⊢
    refine ⟨_, rfl, .inl ⟨rfl, _, SqL.of hF4⟩, lam_four roL_ok flat_id (fun E G Q' h => ⟨_, rfl, _, rfl, h⟩) T4 (fun G e => hu G (extN_trans x4 e)) (fun G e => hv G (extN_trans x4 e)) nh (fun r3 w3 H5 x5 T5 n3 h3 p3 => ?_)⟩
    have n3 := n3 _ _ hF4
    refine ⟨F, _, _, rfl, rfl, x5 _ _ hF4 (fun ps z => by cases z), (by show 2 < sizeLine; decide), ?_⟩
    have x6 : LamX.ExtN H (upd H5 F (.lst ([.ref r1, .ref r2] ++ [.ref r3]))) := fun b o h z => by
      rw [upd_ne (nF b o h z)]
      exact x5 b o (x4 b o h z) z
    have T6 : LamX.Tabs (tabsOf K) (upd H5 F (.lst ([.ref r1, .ref r2] ++ [.ref r3]))) := tabs_lst (x5 _ _ hF4 (fun ps z => by cases z)) T5
    have hF6 : (upd H5 F (.lst ([.ref r1, .ref r2] ++ [.ref r3]))) F = some (.lst [.ref r1, .ref r2, .ref r3]) := upd_same
    have h1 : (upd H5 F (.lst ([.ref r1, .ref r2] ++ [.ref r3]))) r1 = some (.lst w1) := by
      rw [upd_ne n1]
      exact x5 _ _ h1 (fun ps z => by cases z)
    have h2 : (upd H5 F (.lst ([.ref r1, .ref r2] ++ [.ref r3]))) r2 = some (.lst w2) := by
      rw [upd_ne n2.symm]
      exact x5 _ _ h2 (fun ps z => by cases z)
    have h3 : (upd H5 F (.lst ([.ref r1, .ref r2] ++ [.ref r3]))) r3 = some (.lst w3) := by
      rw [upd_ne n3.symm]
      exact h3
    generalize (upd H5 F (.lst ([.ref r1, .ref r2] ++ [.ref r3]))) = H6 at x6 T6 hF6 h1 h2 h3 ⊢
    refine ⟨_, rfl, lam_four roL_ok flat_bl (fun E G Q' h => ⟨_, rfl, _, rfl, h⟩) T6 (fun G e => hu G (extN_trans x6 e)) (fun G e => hv G (extN_trans x6 e)) nh (fun r4 w4 H7 x7 T7 _ h4 p4 => ⟨(by show 1 ≤ sizeLine; decide), fun d hd => ?_⟩)⟩
    have hF7 := x7 _ _ hF6 (fun ps z => by cases z)
    refine ⟨F, d, _, _, rfl, rfl, up hd _ _ hF7, upd_same, (by show 4 ≤ sizeLine; decide), fun l hl => ?_⟩
    have s8 := (up (H' := H7) (o := .lst [.ref r4]) hd).trans (up (o := .lst [.ref r1, .ref r2, .ref r3, .ref r4]) hl)
    exact k l _ (extN_same (extN_trans x6 x7) s8) (T7.ext s8) ⟨r1, r2, r3, r4, w1, w2, w3, w4, upd_same, s8 _ _ (x7 _ _ h1 (fun ps z => by cases z)), s8 _ _ (x7 _ _ h2 (fun ps z => by cases z)), s8 _ _ (x7 _ _ h3 (fun ps z => by cases z)), s8 _ _ h4, p1, p2, p3, p4⟩
end
/-! ### draws, and tables that grow -/
theorem strOk_of (s : String) : PyData.strOk (Str.ofString s) = true := by
  unfold PyData.strOk
  rw [Str.ofString_eq_toList]
  simp only [List.all_toArray, List.all_eq_true, decide_eq_true_eq]
  intro c hc
  obtain ⟨d, _, rfl⟩ := List.mem_map.mp hc
  rcases d.valid with h | h
  · exact Nat.lt_trans h (by decide)
  · exact h.2
theorem PurseAt.same {p : Addr} {H H' : Hp} (h : PurseAt H p) (s : Same H H') : PurseAt H' p := by
  obtain ⟨m, d, c, e, r⟩ := h
  exact ⟨m, d, c, s _ _ e, r⟩
theorem PurseAt.lst {p : Addr} {H : Hp} (h : PurseAt H p) : ∃ xs, H p = some (.lst xs) := by
  obtain ⟨_, _, _, e, _⟩ := h
  exact ⟨_, e⟩
theorem PurseAt.ne {p l : Addr} {H : Hp} (h : PurseAt H p) (hl : H l = none) : l ≠ p := by
  obtain ⟨_, e⟩ := h.lst
  exact Ne.symm (ne_of_none e hl)
/-- all but p and the tables stand as they stood -/
structure DrewT (p : Addr) (H H' : Hp) : Prop where
  at_ : PurseAt H' p
  kp : ∀ b o, b ≠ p → (∀ ps, o ≠ .tbl ps) → H b = some o → H' b = some o
theorem Drew.t {p : Addr} {H H' : Hp} (d : Drew p H H') : DrewT p H H' := ⟨d.at_, fun b o n _ h => d.kp b o n h⟩
theorem DrewT.trans {p : Addr} {H H1 H2 : Hp} (a : DrewT p H H1) (b : DrewT p H1 H2) : DrewT p H H2 := ⟨b.at_, fun x o n t h => b.kp x o n t (a.kp x o n t h)⟩
theorem DrewT.same {p : Addr} {H H1 H2 : Hp} (a : DrewT p H H1) (b : Same H1 H2) : DrewT p H H2 := ⟨a.at_.same b, fun x o n t h => b _ _ (a.kp x o n t h)⟩
theorem DrewT.refl {p : Addr} {H : Hp} (h : PurseAt H p) : DrewT p H H := ⟨h, fun _ _ _ _ h => h⟩
theorem tabs_drewT {K : PySem.W.Frag} {T : List (Addr × Str)} {p : Addr} {H H' : Hp} (hp : PurseAt H p) (d : Drew p H H') (h : LamX.Tabs T H) : LamX.Tabs T H' := by
  intro q hq
  obtain ⟨xs, e⟩ := hp.lst
  obtain ⟨ps, h1, h2, h3⟩ := h q hq
  refine ⟨ps, d.kp _ _ (fun z => by rw [z, e] at h1; cases h1) h1, h2, fun pos cv hc => ?_⟩
  obtain ⟨c, e1, e2⟩ := h3 pos cv hc
  exact ⟨c, e1, d.kp _ _ (fun z => by rw [z, e] at e2; cases e2) e2⟩
theorem ext_drewT {p : Addr} {H H' : Hp} (hp : PurseAt H p) (e : LamX.ExtN H H') : DrewT p H H' := by
  obtain ⟨m, d, c, h, r⟩ := hp
  exact ⟨⟨m, d, c, e _ _ h (fun ps z => by cases z), r⟩, fun b o _ t h => e b o h t⟩
theorem sqT_drewT {K : PySem.W.Frag} {p a : Addr} {H H' : Hp} {xs : List V} (hp : PurseAt H p) (d : DrewT p H H') (h : SqT K H a xs) : SqT K H' a xs := by
  obtain ⟨ys, e⟩ := hp.lst
  rcases h with (h | ⟨o, h⟩) | h
  · exact .inl (.inl (d.kp _ _ (fun z => by rw [z, e] at h; cases h) (fun ps z => by cases z) h))
  · exact .inl (.inr ⟨o, d.kp _ _ (fun z => by rw [z, e] at h; cases h) (fun ps z => by cases z) h⟩)
  · exact .inr h
/-! ### the law's own: what may be compared, and what may not -/
theorem stk_extN {K : PySem.W.Frag} {q : Addr} {H H' : Hp} {b : Int} {ws : List Wr} (e : LamX.ExtN H H') (h : StkAt K H q b ws) : StkAt K H' q b ws := by
  obtain ⟨dx, t, ys, h1, h2, h3⟩ := h
  refine ⟨dx, t, ys, e _ _ h1 (fun ps z => by cases z), e _ _ h2 (fun ps z => by cases z), ?_⟩
  clear h2 h1
  induction h3 with
  | nil => exact .nil
  | cons h _ ih =>
    obtain ⟨d2, p2, g1, g2⟩ := h
    exact .cons ⟨d2, p2, e _ _ g1 (fun ps z => by cases z), e _ _ g2 (fun ps z => by cases z)⟩ ih
theorem plans_extN {H H' : Hp} {xs : List V} {ws : List Wr} (e : LamX.ExtN H H') (h : PlansAt H xs ws) : PlansAt H' xs ws := h.kp fun _ _ hq _ => e _ _ hq (fun ps z => by cases z)
theorem stk_drewT {K : PySem.W.Frag} {p q : Addr} {H H' : Hp} {b : Int} {ws : List Wr} (hp : PurseAt H p) (d : DrewT p H H') (h : StkAt K H q b ws) : StkAt K H' q b ws := by
  obtain ⟨zs, e⟩ := hp.lst
  obtain ⟨dx, t, ys, h1, h2, h3⟩ := h
  refine ⟨dx, t, ys, d.kp _ _ (fun z => by rw [z, e] at h1; cases h1) (fun ps z => by cases z) h1, d.kp _ _ (fun z => by rw [z, e] at h2; cases h2) (fun ps z => by cases z) h2, ?_⟩
  clear h2 h1
  induction h3 with
  | nil => exact .nil
  | cons h _ ih =>
    obtain ⟨d2, p2, g1, g2⟩ := h
    exact .cons ⟨d2, p2, d.kp _ _ (fun z => by rw [z, e] at g1; cases g1) (fun ps z => by cases z) g1, d.kp _ _ (fun z => by rw [z, e] at g2; cases g2) (fun ps z => by cases z) g2⟩ ih
theorem DrewT.plans {p : Addr} {H H1 : Hp} {xs : List V} {ws : List Wr} (d : DrewT p H H1) (hp : PurseAt H p) (h : PlansAt H xs ws) : PlansAt H1 xs ws := h.kp fun q a hq _ => d.kp _ _ (plan_np hq hp) (fun ps z => by cases z) hq
/-- a thing that is no stack and stays -/
structure OddAt (K : PySem.W.Frag) (p : Addr) (H : Hp) (u : V) : Prop where
  fl : flatB u = true ∨ ∃ a, u = .ref a
  no : ∀ G, DrewT p H G → NoC K G "Stack" u
theorem OddAt.go {K : PySem.W.Frag} {p : Addr} {H H1 : Hp} {u : V} (h : OddAt K p H u) (d : DrewT p H H1) : OddAt K p H1 u := ⟨h.fl, fun G e => h.no G (d.trans e)⟩
theorem eqx {K : PySem.W.Frag} {H : Hp} {n : Nat} {u : V} (h : flatB u = true ∨ ∃ a, u = .ref a) : EqL K H (n + 1) u u := by
  rcases h with h | ⟨a, rfl⟩
  · exact .inl ⟨rfl, h⟩
  · exact .inr (.inl ⟨a, rfl, rfl⟩)
theorem rowE {K : PySem.W.Frag} {H : Hp} {n : Nat} {w : Str} {u : V} (h : flatB u = true ∨ ∃ a, u = .ref a) : Paired (EqL K H (n + 1)) [.str w, u, .bl true] [.str w, u, .bl true] := .cons (eqx (.inl rfl)) (.cons (eqx h) (.cons (eqx (.inl rfl)) .nil))
/-- four(..) != [[NotAStack, x, True]] * 4 does not hold -/
theorem ne_four {K : PySem.W.Frag} {i j m : Nat} {σ : L2.St} {H : Hp} {u v x : V} {g1 g2 : Option (Int × List Wr)} {N : Bool → Hp → Prop} (hi : σ[i]? = some (some u)) (hj : σ[j]? = some (some v)) (hm : σ[m]? = some (some x)) (fl : flatB x = true ∨ ∃ a, x = .ref a)
    (hT : LamX.Tabs (tabsOf K) H) (hu : ∀ G, LamX.ExtN H G → SArg K G u g1) (hv : ∀ G, LamX.ExtN H G → SArg K G v g2) (he : (g1 = none ∧ x = u) ∨ ((∃ s, g1 = some s) ∧ g2 = none ∧ x = v)) (k : ∀ H', LamX.ExtN H H' → LamX.Tabs (tabsOf K) H' → N false H') :
    tTest (tOp (rNeL K) (tCall (spFour K) [] E0 (tCons (tVar i) (tCons (tVar j) tNil))) (tOp rRep (tLst (tCons (tLst (tCons (tC (.str "NotAStack")) (tCons (tVar m) (tCons (tC (.bl true)) tNil)))) tNil)) (tC (.int 4)))) σ H N := by
  have nh : ∀ b1 ws1 b2 ws2, g1 = some (b1, ws1) → g2 = some (b2, ws2) → NoHead ws1 ∧ NoHead ws2 := fun b1 ws1 b2 ws2 e1 e2 => by
    rcases he with ⟨z, _⟩ | ⟨_, z, _⟩
    · rw [z] at e1
      cases e1
    · rw [z] at e2
      cases e2
  have rw_ : ∀ {P : Int → List Wr → Int → List Wr → List V → Prop} {row : List V}, rowX u v g1 g2 P row → row = [.str "NotAStack", x, .bl true] := fun h => by
    rcases he with ⟨rfl, rfl⟩ | ⟨⟨s, rfl⟩, rfl, rfl⟩
    · exact h
    · exact h
  refine ⟨_, hi, _, hj, u, v, g1, g2, rfl, hT, hu, hv, nh, fun l H1 x1 T1 hF => ?_⟩
  obtain ⟨r1, r2, r3, r4, w1, w2, w3, w4, hl, h1, h2, h3, h4, p1, p2, p3, p4⟩ := hF
  rw [rw_ p1] at h1
  rw [rw_ p2] at h2
  rw [rw_ p3] at h3
  rw [rw_ p4] at h4
  refine ⟨_, hm, (by show 3 ≤ sizeLine; decide), fun e1 he1 => ⟨(by show 1 ≤ sizeLine; decide), fun e2 he2 => ⟨e2, 4, [.ref e1], rfl, rfl, upd_same, by decide, by decide, (by show 1 * 4 ≤ sizeLine; decide), fun e3 he3 => ?_⟩⟩⟩
  have t1 := up (H' := H1) (o := .lst [.str "NotAStack", x, .bl true]) he1
  have t2 := up (o := .lst [.ref e1]) he2
  have t3 := up (o := .lst (List.replicate (4 : Int).toNat [V.ref e1]).flatten) he3
  have s3 := (t1.trans t2).trans t3
  have g1' := t3 _ _ (t2 _ _ (show (upd H1 e1 (.lst [.str "NotAStack", x, .bl true])) e1 = _ from upd_same))
  have rr : ∀ r, H1 r = some (.lst [.str "NotAStack", x, .bl true]) → EqL K (upd (upd (upd H1 e1 (.lst [.str "NotAStack", x, .bl true])) e2 (.lst [.ref e1])) e3 (.lst (List.replicate (4 : Int).toNat [V.ref e1]).flatten)) 2 (.ref r) (.ref e1) := fun r h => .inr (.inr ⟨r, e1, _, _, rfl, rfl, SqL.of (s3 _ _ h), SqL.of g1', rowE fl⟩)
  exact ⟨2, by decide, ⟨l, e3, _, _, rfl, rfl, SqL.of (s3 _ _ hl), SqL.of upd_same, .cons (rr _ h1) (.cons (rr _ h2) (.cons (rr _ h3) (.cons (rr _ h4) .nil)))⟩, _, rfl, k _ (extN_same x1 s3) (T1.ext s3)⟩
/-- exchangeable, idle of a thing that is no stack -/
theorem lam_one {K : PySem.W.Frag} {tt : XK → TE} {σ : L2.St} {H : Hp} {Q : VK} {u : V} (ha : ∀ E G Q', spNoStk K [u] G Q' E → tt E σ G Q') (hT : LamX.Tabs (tabsOf K) H) (hu : ∀ G, LamX.ExtN H G → NoC K G "Stack" u)
    (k : ∀ l H', LamX.ExtN H H' → LamX.Tabs (tabsOf K) H' → H' l = some (.lst [.str "NotAStack", u, .bl true]) → Q (.ref l) H') : LamX.tLam (tabsOf K) (TOutH K dsC) tt σ H Q := by
  refine ⟨hT, fun G en hT1 => ha _ G _ ⟨u, rfl, hu G en, fun dd hdd => ⟨_, .head _, rfl, dd, u, rfl, upd_same, fun l hl => ?_⟩⟩⟩
  have s2 := (up (H' := G) (o := .xd [("value", u)]) hdd).trans (up (o := .lst [.str "NotAStack", u, .bl true]) hl)
  exact k l _ (extN_same en s2) (hT1.ext s2) upd_same
theorem none_text {r : V} {z : Str} (h : r = .non ∨ ∃ n : Int, r = .int n ∧ 0 ≤ n ∧ n < 10 ^ 70) (hz : flatShown r = some z) : PyData.strOk z = true ∧ PyData.eqv (.str z) (.str "None") = decide (r = .non) := by
  rcases h with rfl | ⟨n, rfl, h0, h1⟩
  · have e : z = "None" := (Option.some.inj hz).symm
    subst e
    exact ⟨by decide +kernel, by decide +kernel⟩
  · rw [flat_int h0 h1] at hz
    have e := Option.some.inj hz
    subst e
    refine ⟨strOk_of _, ?_⟩
    have ne : (Str.ofString (toString n)) ≠ ("None" : Str) := fun z => by
      have f := num_free h0 (s := 78) (.inr (by decide))
      rw [z] at f
      exact f (by decide +kernel)
    rw [show decide (V.int n = V.non) = false from decide_eq_false (fun z => by cases z)]
    simp only [PyData.eqv]
    exact decide_eq_false ne
def tfD : PyData := .list [.str "TooFine", .int 120, .bool true]
theorem nxtE {D : Ends} {σ : L2.St} {H : Hp} (k : D.nx σ H) : tNext D σ H := k
theorem had_four : SeqAt.shaped (PyData.list [.str "had", .str "had", .str "had", .str "had"]) = true ∧ PyData.eqv (.list [.str "had", .str "had", .str "had", .str "had"]) (.list [.str "had", .str "had", .str "had", .str "had"]) = true := by decide +kernel
theorem had_bl (c : Bool) : ∃ z : Str, flatShown (.bl c) = some z ∧ SeqAt.shaped (PyData.list [.str "had", .str z]) = true ∧ PyData.eqv (.list [.str "had", .str z]) (.list [.str "had", .str z]) = true := by
  cases c with
  | true => exact ⟨"True", rfl, by decide +kernel⟩
  | false => exact ⟨"False", rfl, by decide +kernel⟩
def spRight33 (K : PySem.W.Frag) : Sp := fun vs H Q _ => ∃ (p : Addr), vs = [.ref p] ∧ PurseAt H p ∧ LamX.Tabs (tabsOf K) H ∧ ∀ H', DrewT p H H' → LamX.Tabs (tabsOf K) H' → Q (.bl true) H'
section
variable {P : Program} {w : World} {K : PySem.W.Frag} {mg : Str → Option Value} {base : Heap}
theorem ok_L_right (T : Tx w K mg) (U : UT K mg base) : PromG P w K mg base 18 "_law_right" s_L_right ["_law_bowl_here"] (spRight33 K) := by
  refine PromG.ofT T.dt_L_right sc_L_right (fun vs H Q E h => ?_) (fun _ _ _ _ _ _ us hl => match us, hl with | [_], _ => rfl) (fun f A outer s H vs Q E hr hgd h => ?_)
  · obtain ⟨p, rfl, _⟩ := h
    rfl
  · obtain ⟨p, rfl, hp, hT, k⟩ := h
    refine ⟨_, (pss_cons (ps_set (i := 1) sc_L_right.nd rfl (Or.inl rfl) (pe_callP (ok_L_root T) (hr.mono (by decide)) (by rfl) pass0 (pa_cons (pv 0) pa_nil)))
      (pss_cons (ps_set (i := 2) sc_L_right.nd rfl (Or.inl rfl) (pe_callP (ok_L_stack T) (hr.mono (by decide)) (by rfl) pass0 (pa_cons (pv 1) (pa_cons (pe_callP (ok_L_pile T) (hr.mono (by decide)) (by rfl) pass0 (pa_cons (pv 0) (pa_cons (pv 1) (pa_cons pe_int (pa_cons pe_int pa_nil))))) pa_nil))))
      (pss_cons (ps_set (i := 3) sc_L_right.nd rfl (Or.inl rfl) (pe_lst (pa_cons pe_non (pa_cons (pe_callTy (cr_strO (ok_Stack___str__ T) (hr.mono (by decide)) pass0) (by rfl) T.b_str (by decide +kernel) (pa_cons (pv 2) pa_nil)) (pa_cons (pe_tup (pa_cons (pv 2) pa_nil)) (pa_cons pe_int (pa_cons pe_bl (pa_cons (pe_newP (ok_Wrap T) (hr.mono (by decide)) (by rfl) pass0 (pa_cons pe_str (pa_cons pe_int pa_nil))) (pa_cons (pe_lst pa_nil) (pa_cons pe_dnewK (pa_cons pe_str (pa_cons (pe_un un_neg pe_int) (pa_cons (pe_op op_pow pe_int pe_int) pa_nil)))))))))))))
      (pss_cons (ps_asg (pe_tup (pa_cons (pe_callP (ok_L_one_of T) (hr.mono (by decide)) (by rfl) pass0 (pa_cons (pv 0) (pa_cons (pv 3) pa_nil))) (pa_cons (pe_callP (ok_L_one_of T) (hr.mono (by decide)) (by rfl) pass0 (pa_cons (pv 0) (pa_cons (pv 3) pa_nil))) pa_nil))) (pg_tup rfl (pgs_cons (pg_name (i := 8) sc_L_right.nd rfl (Or.inr rfl)) (pgs_cons (pg_name (i := 7) sc_L_right.nd rfl (Or.inr rfl)) pgs_nil))))
      (pss_cons (ps_if (PW.pt (pw_or (pt_cmpR (op_neL hr.units) (pe_callG (ok_L_four T U) hgd (hr.mono (by decide)) (by rfl) (pa_cons (pv 8) (pa_cons (pv 7) pa_nil))) (pe_op op_rep (pe_lst (pa_cons (pe_lst (pa_cons pe_str (pa_cons (pv 8) (pa_cons pe_bl pa_nil)))) pa_nil)) pe_int) (nomark _)) (pw_or1 (pt_cmpR (op_neL hr.units) (pe_callG (ok_L_four T U) hgd (hr.mono (by decide)) (by rfl) (pa_cons (pv 8) (pa_cons (pv 2) pa_nil))) (pe_op op_rep (pe_lst (pa_cons (pe_lst (pa_cons pe_str (pa_cons (pv 8) (pa_cons pe_bl pa_nil)))) pa_nil)) pe_int) (nomark _))))) (pss_one (ps_ret pe_bl)) pss_nil)
      (pss_cons (ps_if (pt_cmpR (op_neL hr.units) (pe_callG (ok_L_four T U) hgd (hr.mono (by decide)) (by rfl) (pa_cons (pv 2) (pa_cons (pv 7) pa_nil))) (pe_op op_rep (pe_lst (pa_cons (pe_lst (pa_cons pe_str (pa_cons (pv 7) (pa_cons pe_bl pa_nil)))) pa_nil)) pe_int) (nomark _)) (pss_one (ps_ret pe_bl)) pss_nil)
      (pss_cons (ps_if (pt_cmpR (op_neL hr.units) (pe_lamP (T := tabsOf K) (k := 14) T.d_L_outcome (by rfl) sc_L_outcome (fun _ _ _ _ _ _ us hl => match us, hl with | [_], _ => rfl) rfl (.inl rfl) (gv_L_outcome T hgd (hr.mono (by decide))) (U _ (List.mem_of_getElem? (i := 1) rfl)) rfl (List.mem_of_getElem? (i := 1) rfl) (tabs_u_L_right T) (hr.mono (by decide)) (LamX.lamS_by (sc := defScope s_L_right) (by decide +kernel)) (fun A1 o1 s1 H1 E1 f1 c1 hr => (pe_callP (ok_exchangeableX T) (hr.mono (by decide)) (gl_lam (by decide +kernel)) LamX_pass (pa_cons (pv 7) pa_nil)))) (pe_lst (pa_cons pe_str (pa_cons (pv 7) (pa_cons pe_bl pa_nil)))) (nomark _)) (pss_one (ps_ret pe_bl)) pss_nil)
      (pss_cons (ps_if (pt_cmpR (op_neL hr.units) (pe_lamP (T := tabsOf K) (k := 14) T.d_L_outcome (by rfl) sc_L_outcome (fun _ _ _ _ _ _ us hl => match us, hl with | [_], _ => rfl) rfl (.inl rfl) (gv_L_outcome T hgd (hr.mono (by decide))) (U _ (List.mem_of_getElem? (i := 1) rfl)) rfl (List.mem_of_getElem? (i := 1) rfl) (tabs_u_L_right T) (hr.mono (by decide)) (LamX.lamS_by (sc := defScope s_L_right) (by decide +kernel)) (fun A1 o1 s1 H1 E1 f1 c1 hr => (pe_callKP (ok_idleX T) (hr.mono (by decide)) (gl_lam (by decide +kernel)) (ks := ["stack"]) (kb_of [0] (by decide) (fun _ _ _ _ _ _ ws hl => match ws, hl with | [_], _ => rfl)) LamX_pass (pk_cons (pv 8) pk_nil)))) (pe_lst (pa_cons pe_str (pa_cons (pv 8) (pa_cons pe_bl pa_nil)))) (nomark _)) (pss_one (ps_ret pe_bl)) pss_nil)
      (pss_cons (ps_set (i := 4) sc_L_right.nd rfl (Or.inl rfl) (pe_callP (ok_L_two T) (hr.mono (by decide)) (by rfl) pass0 (pa_cons (pv 0) pa_nil)))
      (pss_cons (ps_set (i := 5) sc_L_right.nd rfl (Or.inl rfl) (pe_callP (ok_L_one_of T) (hr.mono (by decide)) (by rfl) pass0 (pa_cons (pv 0) (pa_cons (pe_lst (pa_cons (pe_callP (ok_L_two T) (hr.mono (by decide)) (by rfl) pass0 (pa_cons (pv 0) pa_nil)) (pa_cons (pe_slice sl_list (pv 4) po_none (po_some pe_int)) (pa_cons (pe_slice sl_list (pv 4) (po_some pe_int) po_none) (pa_cons (pe_revL (pv 4)) (pa_cons (pe_lst (pa_cons (pe_lst (pa_cons pe_str (pa_cons pe_int pa_nil))) pa_nil)) (pa_cons (pe_callP (ok_L_two T) (hr.mono (by decide)) (by rfl) pass0 (pa_cons (pv 0) pa_nil)) pa_nil))))))) pa_nil))))
      (pss_cons (ps_set (i := 6) sc_L_right.nd rfl (Or.inl rfl) (pe_callG (ok_L_four T U) hgd (hr.mono (by decide)) (by rfl) (pa_cons (pe_callP (ok_L_stack T) (hr.mono (by decide)) (by rfl) pass0 (pa_cons pe_int (pa_cons (pv 4) pa_nil))) (pa_cons (pe_callP (ok_L_stack T) (hr.mono (by decide)) (by rfl) pass0 (pa_cons (pv 1) (pa_cons (pv 5) pa_nil))) pa_nil))))
      (pss_cons (ps_if (pt_cmp (pc_gt (pe_callP (ok_L_shared T) (hr.mono (by decide)) (by rfl) pass0 (pa_cons (pe_callP (ok_L_fineness T) (hr.mono (by decide)) (by rfl) pass0 (pa_cons (pv 4) pa_nil)) (pa_cons (pe_callP (ok_L_fineness T) (hr.mono (by decide)) (by rfl) pass0 (pa_cons (pv 5) pa_nil)) pa_nil))) pe_int)) (pss_one (ps_ret (pe_cmpR (op_eqD hr.units) (pv 6) (pe_op op_rep (pe_lst (pa_cons (pe_lst (pa_cons pe_str (pa_cons pe_int (pa_cons pe_bl pa_nil)))) pa_nil)) pe_int) (nomark _)))) pss_nil)
      (pss_one (ps_ret (pe_and (pe_cmpR (op_eqD hr.units) (pe_lc (own := [("_law_answer", 9)]) (g := (gName 9)) (tt := tYes) (by rfl) sc_L_right.nd (pi_list (pv 6)) (blkOk_by (own := [("_law_answer", 9)]) (N := ["_law_bowl_here", "_law_root_here", "_law_made", "_law_some", "_law_plans", "_law_mate", "_law_answers", "_law_bad", "_law_odd", "_law_answer"]) (sc := defScope s_L_right) (by decide +kernel)) (fun _ _ _ _ _ => (pg_name (i := 9) sc_L_right.nd rfl (Or.inl rfl))) (fun _ _ _ _ _ => pts_nil) (fun _ _ _ _ _ => (pe_ix (show IxR _ (rIxL K) from ix_list) (pv 9) pe_int (fun _ _ => rfl)))) (pe_op op_rep (pe_lst (pa_cons pe_str pa_nil)) pe_int) (nomark _)) (pe_one (pe_cmpR (op_eqD hr.units) (pe_ix ix_list (pv 6) pe_int (fun _ _ => rfl)) (pe_lst (pa_cons pe_str (pa_cons (pe_callB cr_repr (by rfl) T.b_repr (by decide +kernel) (pa_cons (pe_cmpR (op_eqD hr.units) (pe_ix ix_list (pe_ix ix_list (pv 6) pe_int (fun _ _ => rfl)) pe_int (fun _ _ => rfl)) pe_str (nomark _)) pa_nil)) pa_nil))) (nomark _)))))))))))))))))), ?_⟩
    refine ⟨_, rfl, p, rfl, hp, fun b G1 b0 b1 d1 => gn ?_⟩
    have T1 := tabs_drewT (K := K) hp d1 hT
    refine ⟨_, rfl, _, rfl, _, rfl, p, b, 2, rfl, d1.at_, b0, b1, by decide, by decide, fun l xs ws G2 ok len fl nl d2 hl hw => ⟨l, b, xs, ws, rfl, hl, hw, ⟨b0, b1, ok, by omega, fl⟩, fun q G3 nq s3 hst => gn ?_⟩⟩
    have D3 := ((d1.trans d2).same s3).t
    have T3 := (tabs_drewT (K := K) d1.at_ d2 T1).ext s3
    have hp3 := D3.at_
    have so : StkOk b ws := ⟨b0, b1, ok, by omega, fl⟩
    obtain ⟨dxq, tq, xq, gq, _, _⟩ := id hst
    refine ⟨_, rfl, q, dxq, _, rfl, gq, q, b, ws, rfl, hst, so, fun H5 s5 => ⟨_, rfl, _, rfl, (by show 1 ≤ sizeLine; decide), fun ta k1 => ⟨Wr.told 1, rfl, ⟨by decide, by decide⟩, fun w1 H6 n6 s6 hw6 => ⟨Nat.zero_le _, fun la k2 => fun da k3 => ⟨_, rfl, _, _, rfl, rfl, ⟨by decide, by decide, by decide⟩, (by show 11 ≤ sizeLine; decide), fun L hL => gn ?_⟩⟩⟩⟩⟩
    have hp5 := hp3.same s5
    have m1 := hp5.ne k1
    have u1 := up (H' := H5) (o := .tup [.ref q]) k1
    have mw := (hp5.same u1).ne n6
    have u2 := u1.trans s6
    have m2 := (hp5.same u2).ne k2
    have u3 := u2.trans (up (o := .lst []) k2)
    have m3 := (hp5.same u3).ne k3
    have u4 := u3.trans (up (o := .dK []) k3)
    have mL := (hp5.same u4).ne hL
    have u5 := u4.trans (up (o := .lst [.non, .str (stkText b ws), .ref ta, .int 5, .bl true, .ref w1, .ref la, .ref da, .str "base 10", .int (-1), .int (10 ^ Int.toNat 61)]) hL)
    have a1 : (upd (upd (upd H6 la (.lst [])) da (.dK [])) L (.lst [.non, .str (stkText b ws), .ref ta, .int 5, .bl true, .ref w1, .ref la, .ref da, .str "base 10", .int (-1), .int (10 ^ Int.toNat 61)])) ta = some (.tup [.ref q]) := up hL _ _ (up k3 _ _ (up k2 _ _ (s6 _ _ upd_same)))
    have a2 : (upd (upd (upd H6 la (.lst [])) da (.dK [])) L (.lst [.non, .str (stkText b ws), .ref ta, .int 5, .bl true, .ref w1, .ref la, .ref da, .str "base 10", .int (-1), .int (10 ^ Int.toNat 61)])) la = some (.lst []) := up hL _ _ (up k3 _ _ upd_same)
    have a3 : (upd (upd (upd H6 la (.lst [])) da (.dK [])) L (.lst [.non, .str (stkText b ws), .ref ta, .int 5, .bl true, .ref w1, .ref la, .ref da, .str "base 10", .int (-1), .int (10 ^ Int.toNat 61)])) da = some (.dK []) := up hL _ _ upd_same
    have a4 : (upd (upd (upd H6 la (.lst [])) da (.dK [])) L (.lst [.non, .str (stkText b ws), .ref ta, .int 5, .bl true, .ref w1, .ref la, .ref da, .str "base 10", .int (-1), .int (10 ^ Int.toNat 61)])) L = some (.lst [.non, .str (stkText b ws), .ref ta, .int 5, .bl true, .ref w1, .ref la, .ref da, .str "base 10", .int (-1), .int (10 ^ Int.toNat 61)]) := upd_same
    obtain ⟨dw, tw, gw, _⟩ := hw6.same (((up (o := .lst []) k2).trans (up (o := .dK []) k3)).trans (up (o := .lst [.non, .str (stkText b ws), .ref ta, .int 5, .bl true, .ref w1, .ref la, .ref da, .str "base 10", .int (-1), .int (10 ^ Int.toNat 61)]) hL))
    refine hp_eq (upd (upd (upd H6 la (.lst [])) da (.dK [])) L (.lst [.non, .str (stkText b ws), .ref ta, .int 5, .bl true, .ref w1, .ref la, .ref da, .str "base 10", .int (-1), .int (10 ^ Int.toNat 61)])) rfl ?_
    have S7 := s5.trans u5
    generalize (upd (upd (upd H6 la (.lst [])) da (.dK [])) L (.lst [.non, .str (stkText b ws), .ref ta, .int 5, .bl true, .ref w1, .ref la, .ref da, .str "base 10", .int (-1), .int (10 ^ Int.toNat 61)])) = H7 at a1 a2 a3 a4 gw S7 ⊢
    have odd : ∀ (io : Nat) (u : V), ([.non, .str (stkText b ws), .ref ta, .int 5, .bl true, .ref w1, .ref la, .ref da, .str "base 10", .int (-1), .int (10 ^ Int.toNat 61)] : List V)[io]? = some u → OddAt K p H7 u := fun io u ho => by
      have hm := List.mem_of_getElem? ho
      simp only [List.mem_cons, List.not_mem_nil, or_false] at hm
      have kW : ("Wrap" : Str) ∈ [("Wrap" : Str), "Stack"] := List.Mem.head _
      have kS : ("Stack" : Str) ∈ [("Wrap" : Str), "Stack"] := List.Mem.tail _ (List.Mem.head _)
      rcases hm with rfl | rfl | rfl | rfl | rfl | rfl | rfl | rfl | rfl | rfl | rfl
      · exact ⟨.inl rfl, fun _ _ => Bas.non.noC T.kt kS⟩
      · exact ⟨.inl rfl, fun _ _ => (Bas.str _).noC T.kt kS⟩
      · exact ⟨.inr ⟨_, rfl⟩, fun G d => (Bas.tup (d.kp _ _ m1 (fun ps z => by cases z) a1)).noC T.kt kS⟩
      · exact ⟨.inl rfl, fun _ _ => (Bas.int _).noC T.kt kS⟩
      · exact ⟨.inl rfl, fun _ _ => (Bas.bl _).noC T.kt kS⟩
      · exact ⟨.inr ⟨_, rfl⟩, fun G d => noC_ins T.is_Wrap T.kt kW kS (by decide) (d.kp _ _ mw (fun ps z => by cases z) gw)⟩
      · exact ⟨.inr ⟨_, rfl⟩, fun G d => (Bas.lst (d.kp _ _ m2 (fun ps z => by cases z) a2)).noC T.kt kS⟩
      · exact ⟨.inr ⟨_, rfl⟩, fun G d => (Bas.dct (d.kp _ _ m3 (fun ps z => by cases z) a3)).noC T.kt kS⟩
      · exact ⟨.inl rfl, fun _ _ => (Bas.str _).noC T.kt kS⟩
      · exact ⟨.inl rfl, fun _ _ => (Bas.int _).noC T.kt kS⟩
      · exact ⟨.inl rfl, fun _ _ => (Bas.int _).noC T.kt kS⟩
    have D7 := D3.same S7
    have T7 := T3.ext S7
    have hst7 := hst.same S7
    refine st_eq [some (.ref p), some (.int b), some (.ref q), some (.ref L), none, none, none, none, none, none] rfl ?_
    refine ⟨_, rfl, _, rfl, p, L, _, rfl, D7.at_, mL, a4, by show 0 < 11; decide, by show 11 ≤ 1000; decide, fun io u G8 ho d8 => ⟨_, rfl, _, rfl, p, L, _, rfl, d8.at_, mL, d8.kp _ _ mL a4, by show 0 < 11; decide, by show 11 ≤ 1000; decide, fun jo v G9 hj d9 => ⟨(by show 2 ≤ sizeLine; decide), fun tt htt => ⟨tt, _, rfl, SqT.of upd_same, rfl, _, _, rfl, _, _, rfl, rfl, ?_⟩⟩⟩⟩
    have s10 := up (o := .tup [u, v]) htt
    have d10 := (d8.trans d9).t.same s10
    have hu := (odd io u ho).go d10
    have hv := (odd jo v hj).go d10
    have D10 := D7.trans d10
    have T10 := (tabs_drewT (K := K) d8.at_ d9 (tabs_drewT (K := K) D7.at_ d8 T7)).ext s10
    have hst10 := stk_drewT D7.at_ d10 hst7
    generalize (upd G9 tt (.tup [u, v])) = G10 at s10 d10 hu hv D10 T10 hst10 ⊢
    clear odd
    have hp10 := D10.at_
    refine st_eq [some (.ref p), some (.int b), some (.ref q), some (.ref L), none, none, none, some v, some u, none] rfl ?_
    -- four times no stack
    refine ne_four (g1 := none) (g2 := none) rfl rfl rfl hu.fl T10 (fun G e => hu.no G (ext_drewT hp10 e)) (fun G e => hv.no G (ext_drewT hp10 e)) (.inl ⟨rfl, rfl⟩) (fun G11 x11 T11 => ?_)
    have d11 := ext_drewT hp10 x11
    have hu := hu.go d11
    have hv := hv.go d11
    have D11 := D10.trans d11
    have hst11 := stk_extN x11 hst10
    have hp11 := D11.at_
    refine iteF ?_
    refine ne_four (g1 := none) (g2 := some (b, ws)) rfl rfl rfl hu.fl T11 (fun G e => hu.no G (ext_drewT hp11 e)) (fun G e => ⟨q, rfl, stk_extN e hst11, so⟩) (.inl ⟨rfl, rfl⟩) (fun G12 x12 T12 => ?_)
    have d12 := ext_drewT hp11 x12
    have hu := hu.go d12
    have hv := hv.go d12
    have D12 := D11.trans d12
    have hst12 := stk_extN x12 hst11
    have hp12 := D12.at_
    refine iteF (nxtE ?_)
    refine ne_four (g1 := some (b, ws)) (g2 := none) rfl rfl rfl hv.fl T12 (fun G e => ⟨q, rfl, stk_extN e hst12, so⟩) (fun G e => hv.no G (ext_drewT hp12 e)) (.inr ⟨⟨_, rfl⟩, rfl, rfl⟩) (fun G13 x13 T13 => ?_)
    have d13 := ext_drewT hp12 x13
    have hu := hu.go d13
    have hv := hv.go d13
    have D13 := D12.trans d13
    have hp13 := D13.at_
    refine iteF (nxtE ?_)
    refine lam_one (fun E G Q' h => ⟨_, rfl, h⟩) T13 (fun G e => hv.no G (ext_drewT hp13 e)) (fun l14 G14 x14 T14 h14 => ?_)
    have d14 := ext_drewT hp13 x14
    have hu := hu.go d14
    have hv := hv.go d14
    have D14 := D13.trans d14
    refine ⟨_, rfl, (by show 3 ≤ sizeLine; decide), fun e14 he14 => ⟨1, by decide, ⟨l14, e14, _, _, rfl, rfl, SqL.of (up he14 _ _ h14), SqL.of upd_same, rowE hv.fl⟩, _, rfl, iteF (nxtE ?_)⟩⟩
    have s15 := up (o := .lst [.str "NotAStack", v, .bl true]) he14
    have hu := hu.go ((DrewT.refl D14.at_).same s15)
    have D15 := D14.same s15
    have T15 := T14.ext s15
    generalize (upd G14 e14 (.lst [.str "NotAStack", v, .bl true])) = G15 at hu D15 T15 ⊢
    have hp15 := D15.at_
    refine lam_one (fun E G Q' h => ⟨_, rfl, h⟩) T15 (fun G e => hu.no G (ext_drewT hp15 e)) (fun l16 G16 x16 T16 h16 => ?_)
    have d16 := ext_drewT hp15 x16
    have D16 := D15.trans d16
    refine ⟨_, rfl, (by show 3 ≤ sizeLine; decide), fun e16 he16 => ⟨1, by decide, ⟨l16, e16, _, _, rfl, rfl, SqL.of (up he16 _ _ h16), SqL.of upd_same, rowE hu.fl⟩, _, rfl, iteF (nxtE ?_)⟩⟩
    have s17 := up (o := .lst [.str "NotAStack", u, .bl true]) he16
    have D17 := D16.same s17
    have T17 := T16.ext s17
    generalize (upd G16 e16 (.lst [.str "NotAStack", u, .bl true])) = G17 at D17 T17 ⊢
    have hp17 := D17.at_
    clear hu hv hst12 hst11 hst10 hst7 hst
    -- two stacks
    refine ⟨_, rfl, p, rfl, hp17, fun l xs ws1 G18 nh1 ok1 len1 f1 nl1 d18 hl1 hw1 => gn ?_⟩
    have nl : l ≠ p := hp17.ne nl1
    have D18 := D17.trans d18.t
    have T18 := tabs_drewT (K := K) hp17 d18 T17
    obtain ⟨e1, e2, a1, a2, rfl, rfl, ha1, ha2⟩ : ∃ (e1 e2 : Addr) (a1 a2 : Wr), xs = [.ref e1, .ref e2] ∧ ws1 = [a1, a2] ∧ PlanAt G18 e1 a1 ∧ PlanAt G18 e2 a2 := by
      cases hw1 with
      | nil => cases len1
      | cons h r =>
        cases r with
        | nil => cases len1
        | cons h2 r2 =>
          cases r2 with
          | nil => exact ⟨_, _, _, _, rfl, rfl, h, h2⟩
          | cons _ _ => cases len1
    have oa1 := ok1 a1 (List.mem_cons_self ..)
    have oa2 := ok1 a2 (List.mem_cons_of_mem _ (List.mem_cons_self ..))
    have na1 := nh1 a1 (List.mem_cons_self ..)
    have na2 := nh1 a2 (List.mem_cons_of_mem _ (List.mem_cons_self ..))
    have u1 := use_pos oa1
    have u2 := use_pos oa2
    have fm : a1.use * a2.use ≤ 120 := by
      have := f1
      rw [fine_cons, fine_cons, show fineL [] = 1 from rfl, Int.mul_one] at this
      exact this
    have fa1 : a1.use ≤ 120 := by
      have := Int.mul_le_mul_of_nonneg_left u2 (show 0 ≤ a1.use by omega)
      omega
    have fa2 : a2.use ≤ 120 := by
      have := Int.mul_le_mul_of_nonneg_right u1 (show 0 ≤ a2.use by omega)
      omega
    refine st_eq [some (.ref p), some (.int b), some (.ref q), some (.ref L), some (.ref l), none, none, some v, some u, none] rfl ?_
    refine ⟨_, rfl, _, rfl, p, rfl, D18.at_, fun l2 xs2 ws2 G19 nh2 ok2 len2 f2 nl2 d19 hl2 hw2 => ?_⟩
    have nl2 : l2 ≠ p := D18.at_.ne nl2
    have hl1 := d19.kp _ _ nl hl1
    have ha1 := d19.plan D18.at_ ha1
    have ha2 := d19.plan D18.at_ ha2
    have D19 := D18.trans d19.t
    have T19 := tabs_drewT (K := K) D18.at_ d19 T18
    refine ⟨_, rfl, _, rfl, l, _, rfl, SqL.of hl1, fun c1 hc1 => ?_⟩
    have n1 : c1 ≠ p := D19.at_.ne hc1
    have t1 := up (o := .lst (cutV [V.ref e1, V.ref e2] none (some 1))) hc1
    have g1 : (upd G19 c1 (.lst (cutV [V.ref e1, V.ref e2] none (some 1)))) c1 = some (.lst [.ref e1]) := upd_same.trans (congrArg (fun z => some (HO.lst z)) (cut_to (i := 1) (by show 1 ≤ 2; decide)))
    generalize (upd G19 c1 (.lst (cutV [V.ref e1, V.ref e2] none (some 1)))) = G20 at t1 g1 ⊢
    have D20 := D19.same t1
    refine ⟨_, rfl, _, rfl, l, _, rfl, SqL.of (t1 _ _ hl1), fun c2 hc2 => ?_⟩
    have n2 : c2 ≠ p := D20.at_.ne hc2
    have t2 := up (o := .lst (cutV [V.ref e1, V.ref e2] (some 1) none)) hc2
    have g2 : (upd G20 c2 (.lst (cutV [V.ref e1, V.ref e2] (some 1) none))) c2 = some (.lst [.ref e2]) := upd_same.trans (congrArg (fun z => some (HO.lst z)) (cut_from (i := 1) (by show 1 ≤ 2; decide)))
    generalize (upd G20 c2 (.lst (cutV [V.ref e1, V.ref e2] (some 1) none))) = G21 at t2 g2 ⊢
    have D21 := D20.same t2
    refine ⟨_, rfl, l, _, rfl, SqL.of (t2 _ _ (t1 _ _ hl1)), fun c3 hc3 => ?_⟩
    have n3 : c3 ≠ p := D21.at_.ne hc3
    have t3 := up (o := .lst ([V.ref e1, V.ref e2] : List V).reverse) hc3
    have g3 : (upd G21 c3 (.lst ([V.ref e1, V.ref e2] : List V).reverse)) c3 = some (.lst [.ref e2, .ref e1]) := upd_same
    generalize (upd G21 c3 (.lst ([V.ref e1, V.ref e2] : List V).reverse)) = G22 at t3 g3 ⊢
    have D22 := D21.same t3
    refine ⟨(by show 2 ≤ sizeLine; decide), fun e3 he3 => ⟨(by show 1 ≤ sizeLine; decide), fun c4 hc4 => ?_⟩⟩
    have t4 := (up (H' := G22) (o := .lst [.str "filled", .int 60]) he3).trans (up (o := .lst [.ref e3]) hc4)
    have n4 : c4 ≠ p := (D22.at_.same (up (o := .lst [.str "filled", .int 60]) he3)).ne hc4
    have ha3 : PlanAt (upd (upd G22 e3 (.lst [.str "filled", .int 60])) c4 (.lst [.ref e3])) e3 (.filled 60) := up hc4 _ _ upd_same
    have g4 : (upd (upd G22 e3 (.lst [.str "filled", .int 60])) c4 (.lst [.ref e3])) c4 = some (.lst [.ref e3]) := upd_same
    generalize (upd (upd G22 e3 (.lst [.str "filled", .int 60])) c4 (.lst [.ref e3])) = G23 at t4 ha3 g4 ⊢
    have D23 := D22.same t4
    have S23 := ((t1.trans t2).trans t3).trans t4
    have T23 := T19.ext S23
    refine ⟨_, rfl, p, rfl, D23.at_, fun l6 xs6 ws6 G24 nh6 ok6 len6 f6 nl6 d24 hl6 hw6 => ⟨(by show 6 ≤ sizeLine; decide), fun Lm hLm => ?_⟩⟩
    have nl6 : l6 ≠ p := D23.at_.ne nl6
    have D24 := D23.trans d24.t
    have T24 := tabs_drewT (K := K) D23.at_ d24 T23
    have nLm : Lm ≠ p := D24.at_.ne hLm
    have t5 := up (o := .lst [.ref l2, .ref c1, .ref c2, .ref c3, .ref c4, .ref l6]) hLm
    refine ⟨p, Lm, _, rfl, D24.at_.same t5, nLm, upd_same, (by show 0 < 6; decide), (by show 6 ≤ 1000; decide), fun jm m G26 hm d26 => gn ?_⟩
    have kp5 : ∀ (a : Addr) (ys : List V), a ≠ p → G23 a = some (.lst ys) → G26 a = some (.lst ys) := fun a ys n h => d26.kp _ _ n (t5 _ _ (d24.kp _ _ n h))
    have hp24 : PurseAt (upd G24 Lm (.lst [.ref l2, .ref c1, .ref c2, .ref c3, .ref c4, .ref l6])) p := D24.at_.same t5
    have pl5 : ∀ {e : Addr} {a : Wr}, PlanAt G23 e a → PlanAt G26 e a := fun h => d26.plan hp24 (t5 _ _ (d24.plan D23.at_ h))
    have ha1 := pl5 (S23 _ _ ha1)
    have ha2 := pl5 (S23 _ _ ha2)
    have ha3 := pl5 ha3
    have hl1 := kp5 l _ nl (S23 _ _ hl1)
    have D26 := (D24.same t5).trans d26.t
    have T26 := tabs_drewT (K := K) hp24 d26 (T24.ext t5)
    obtain ⟨m', xs', ws', rfl, hm', hw', nh', ok', len', f'⟩ : ∃ (m' : Addr) (xs' : List V) (ws' : List Wr), m = .ref m' ∧ G26 m' = some (.lst xs') ∧ PlansAt G26 xs' ws' ∧ NoHead ws' ∧ (∀ a ∈ ws', a.ok) ∧ ws'.length ≤ 2 ∧ fineL ws' ≤ 120 := by
      match jm, hm with
      | 0, hm => exact ⟨l2, xs2, ws2, (Option.some.inj hm).symm, kp5 l2 _ nl2 (S23 _ _ hl2), d26.plans hp24 ((d24.plans D23.at_ (hw2.same S23)).same t5), nh2, ok2, by omega, f2⟩
      | 1, hm => exact ⟨c1, _, [a1], (Option.some.inj hm).symm, kp5 c1 _ n1 (t4 _ _ (t3 _ _ (t2 _ _ g1))), .cons ha1 .nil, fun a ha => by rw [List.mem_singleton.mp ha]; exact na1, fun a ha => by rw [List.mem_singleton.mp ha]; exact oa1, by show 1 ≤ 2; decide, by rw [fine_cons]; show a1.use * 1 ≤ 120; omega⟩
      | 2, hm => exact ⟨c2, _, [a2], (Option.some.inj hm).symm, kp5 c2 _ n2 (t4 _ _ (t3 _ _ g2)), .cons ha2 .nil, fun a ha => by rw [List.mem_singleton.mp ha]; exact na2, fun a ha => by rw [List.mem_singleton.mp ha]; exact oa2, by show 1 ≤ 2; decide, by rw [fine_cons]; show a2.use * 1 ≤ 120; omega⟩
      | 3, hm =>
        refine ⟨c3, _, [a2, a1], (Option.some.inj hm).symm, kp5 c3 _ n3 (t4 _ _ g3), .cons ha2 (.cons ha1 .nil), fun a ha => ?_, fun a ha => ?_, by show 2 ≤ 2; decide, ?_⟩
        · simp only [List.mem_cons, List.not_mem_nil, or_false] at ha
          rcases ha with rfl | rfl
          · exact na2
          · exact na1
        · simp only [List.mem_cons, List.not_mem_nil, or_false] at ha
          rcases ha with rfl | rfl
          · exact oa2
          · exact oa1
        · rw [fine_cons, fine_cons]
          show a2.use * (a1.use * 1) ≤ 120
          rw [Int.mul_one, Int.mul_comm]
          exact fm
      | 4, hm => exact ⟨c4, _, [.filled 60], (Option.some.inj hm).symm, kp5 c4 _ n4 g4, .cons ha3 .nil, fun a ha => by rw [List.mem_singleton.mp ha]; rfl, fun a ha => by rw [List.mem_singleton.mp ha]; exact ⟨by decide, by decide⟩, by show 1 ≤ 2; decide, by decide⟩
      | 5, hm => exact ⟨l6, xs6, ws6, (Option.some.inj hm).symm, d26.kp _ _ nl6 (t5 _ _ hl6), d26.plans hp24 (hw6.same t5), nh6, ok6, by omega, f6⟩
      | n + 6, hm => exact absurd hm (by simp)
    refine st_eq [some (.ref p), some (.int b), some (.ref q), some (.ref L), some (.ref l), some (.ref m'), none, some v, some u, none] rfl ?_
    clear hw2 hl2 hw6 hl6 hm g1 g2 g3 g4 hc1 hc2 hc3 he3 hc4 hLm
    have so1 : StkOk 10 [a1, a2] := ⟨by decide, by decide, ok1, by show 2 ≤ 6; decide, f1⟩
    have so2 : StkOk b ws' := ⟨b0, b1, ok', by omega, f'⟩
    refine ⟨_, rfl, l, 10, _, [a1, a2], rfl, hl1, .cons ha1 (.cons ha2 .nil), so1, fun q1 G27 nq1 s27 hst1 => ⟨_, rfl, _, rfl, m', b, xs', ws', rfl, s27 _ _ hm', hw'.same s27, so2, fun q2 G28 nq2 s28 hst2 => ?_⟩⟩
    have D28 := (D26.same s27).same s28
    have hst1 := hst1.same s28
    have hl1 := s28 _ _ (s27 _ _ hl1)
    have hw1 : PlansAt G28 [.ref e1, .ref e2] [a1, a2] := ((PlansAt.cons ha1 (.cons ha2 .nil)).same s27).same s28
    have hm' := s28 _ _ (s27 _ _ hm')
    have hw' := (hw'.same s27).same s28
    refine ⟨.ref q1, .ref q2, some (10, [a1, a2]), some (b, ws'), rfl, (T26.ext s27).ext s28, fun G e => ⟨q1, rfl, stk_extN e hst1, so1⟩, fun G e => ⟨q2, rfl, stk_extN e hst2, so2⟩, fun _ _ _ _ z1 z2 => by cases z1; cases z2; exact ⟨nh1, nh'⟩, fun la G29 x29 T29 hF => gn ?_⟩
    have D29 := D28.trans (ext_drewT D28.at_ x29)
    have hl1 := x29 _ _ hl1 (fun ps z => by cases z)
    have hw1 := plans_extN x29 hw1
    have hm' := x29 _ _ hm' (fun ps z => by cases z)
    have hw' := plans_extN x29 hw'
    obtain ⟨r1, r2, r3, r4, w1, w2, w3, w4, ha, h1, h2, h3, h4, p1, p2, p3, p4⟩ := hF
    refine st_eq [some (.ref p), some (.int b), some (.ref q), some (.ref L), some (.ref l), some (.ref m'), some (.ref la), some v, some u, none] rfl ?_
    refine ⟨_, rfl, l, _, _, rfl, hl1, hw1, ok1, by show 2 ≤ 6; decide, fun G30 s30 => ⟨_, rfl, m', _, _, rfl, s30 _ _ hm', hw'.same s30, ok', by omega, fun G31 s31 => ⟨_, _, rfl, fine_one ok1, fine_one ok', f', f1, _, _, rfl, rfl, _, rfl, ifd (fun c => ?_) (fun c => nxtE ?_)⟩⟩⟩
    · have c : 120 < lcmF [a1, a2] ws' := c
      have s31 := s30.trans s31
      have h1 := s31 _ _ h1
      have h2 := s31 _ _ h2
      have h3 := s31 _ _ h3
      have h4 := s31 _ _ h4
      have ha := s31 _ _ ha
      rw [p1.1 c] at h1
      rw [p2.1 c] at h2
      rw [p3.1 c] at h3
      rw [p4.1 c] at h4
      refine ⟨_, rfl, (by show 3 ≤ sizeLine; decide), fun d1 hd1 => ⟨(by show 1 ≤ sizeLine; decide), fun d2 hd2 => ⟨d2, 4, [.ref d1], rfl, rfl, upd_same, by decide, by decide, (by show 1 * 4 ≤ sizeLine; decide), fun d3 hd3 => ?_⟩⟩⟩
      have t1 := up (H' := G31) (o := .lst [.str "TooFine", .int 120, .bl true]) hd1
      have t2 := up (o := .lst [.ref d1]) hd2
      have t3 := up (o := .lst (List.replicate (4 : Int).toNat [V.ref d1]).flatten) hd3
      have S3 := (t1.trans t2).trans t3
      have gd := t3 _ _ (t2 _ _ (show (upd G31 d1 (.lst [.str "TooFine", .int 120, .bl true])) d1 = _ from upd_same))
      have row : ∀ r, (upd (upd (upd G31 d1 (.lst [.str "TooFine", .int 120, .bl true])) d2 (.lst [.ref d1])) d3 (.lst (List.replicate (4 : Int).toNat [V.ref d1]).flatten)) r = some (.lst [.str "TooFine", .int 120, .bl true]) → Dp K (upd (upd (upd G31 d1 (.lst [.str "TooFine", .int 120, .bl true])) d2 (.lst [.ref d1])) d3 (.lst (List.replicate (4 : Int).toNat [V.ref d1]).flatten)) (.ref r) tfD := fun r h => .lst (SqL.of h) (.cons (.str _) (.cons (.int _) (.cons (.bl _) .nil)))
      refine ⟨.list [tfD, tfD, tfD, tfD], .list [tfD, tfD, tfD, tfD], .lst (SqL.of (S3 _ _ ha)) (.cons (row _ (S3 _ _ h1)) (.cons (row _ (S3 _ _ h2)) (.cons (row _ (S3 _ _ h3)) (.cons (row _ (S3 _ _ h4)) .nil)))), .lst (SqL.of upd_same) (.cons (row _ gd) (.cons (row _ gd) (.cons (row _ gd) (.cons (row _ gd) .nil)))), by decide +kernel, by decide +kernel, ?_⟩
      rw [show PyData.eqv (.list [tfD, tfD, tfD, tfD]) (.list [tfD, tfD, tfD, tfD]) = true by decide +kernel]
      exact k _ (D29.same (s31.trans S3)) (T29.ext (s31.trans S3))
    · have c : ¬ 120 < lcmF [a1, a2] ws' := c
      have le : lcmF [a1, a2] ws' ≤ 120 := by omega
      have s31 := s30.trans s31
      have h1 := s31 _ _ h1
      have h2 := s31 _ _ h2
      have h3 := s31 _ _ h3
      have h4 := s31 _ _ h4
      have ha := s31 _ _ ha
      obtain ⟨y1, z1, i1, k1, rfl⟩ := p1.2 le
      obtain ⟨y2, z2, i2, k2, rfl⟩ := p2.2 le
      obtain ⟨y3, z3, _, _, rfl⟩ := p3.2 le
      obtain ⟨y4, z4, _, _, rfl⟩ := p4.2 le
      obtain rfl : y1 = y2 := i1.uniq i2
      have sm := first_small roO_ok so1 so2 nh1 nh' le i1
      have D31 := D29.same s31
      have T31 := T29.ext s31
      refine ⟨_, rfl, la, rfl, ⟨_, SqL.of ha⟩, fun B hB => ?_⟩
      refine lc_list (K := K) (a := la) (xs := [.ref r1, .ref r2, .ref r3, .ref r4]) (Pv := fun j G => Same G31 G ∧ G B = some (.lst (List.replicate j (.str "had")))) ⟨up hB, upd_same⟩ (fun j G _ h => SqL.of (h.1 _ _ ha)) ?_ ?_
      · rintro j x G hj ⟨hs, hd⟩
        have j4 : j < 4 := (List.getElem?_eq_some_iff.mp hj).1
        obtain ⟨r, z, rfl, hr⟩ : ∃ (r : Addr) (z : Str), x = .ref r ∧ G31 r = some (.lst [.str "had", .str z]) := by
          match j, hj with
          | 0, hj => exact ⟨r1, _, (Option.some.inj hj).symm, h1⟩
          | 1, hj => exact ⟨r2, _, (Option.some.inj hj).symm, h2⟩
          | 2, hj => exact ⟨r3, _, (Option.some.inj hj).symm, h3⟩
          | 3, hj => exact ⟨r4, _, (Option.some.inj hj).symm, h4⟩
          | n + 4, hj => exact absurd hj (by simp)
        refine ⟨rfl, _, rfl, r, _, 0, _, rfl, rfl, SqL.of (hs _ _ hr), atI_nat (j := 0) rfl, _, hd, ?_, fun z o e => ?_, ?_⟩
        · rw [List.length_replicate, sizeLine_eq]
          omega
        · rw [upd_ne (ne_of_none e hB)]
          exact hs _ _ e
        · rw [upd_same, List.replicate_succ']
      rintro G32 ⟨s32, hB32⟩
      refine ⟨(by show 1 ≤ sizeLine; decide), fun d2 hd2 => ⟨d2, 4, [.str "had"], rfl, rfl, upd_same, by decide, by decide, (by show 1 * 4 ≤ sizeLine; decide), fun d3 hd3 => ?_⟩⟩
      have S3 := (up (H' := G32) (o := .lst [.str "had"]) hd2).trans (up (o := .lst (List.replicate (4 : Int).toNat [V.str "had"]).flatten) hd3)
      have dd : ∀ G, DpAll K G [.str "had", .str "had", .str "had", .str "had"] [.str "had", .str "had", .str "had", .str "had"] := fun G => .cons (.str _) (.cons (.str _) (.cons (.str _) (.cons (.str _) .nil)))
      refine ⟨_, _, .lst (SqL.of (S3 _ _ hB32)) (dd _), .lst (SqL.of upd_same) (dd _), had_four.1, had_four.1, _, rfl, ifb_pos had_four.2 ?_⟩
      have S31 := s32.trans S3
      generalize (upd (upd G32 d2 (.lst [.str "had"])) d3 (.lst (List.replicate (4 : Int).toNat [V.str "had"]).flatten)) = G33 at S31 ⊢
      obtain ⟨ok1', ev⟩ := none_text sm k1
      have la33 := S31 _ _ ha
      refine ⟨_, rfl, la, _, 1, _, rfl, rfl, SqL.of la33, atI_nat (j := 1) rfl, ?_⟩
      refine ⟨_, rfl, la, _, 0, _, rfl, rfl, SqL.of la33, atI_nat (j := 0) rfl, r1, _, 1, _, rfl, rfl, SqL.of (S31 _ _ h1), atI_nat (j := 1) rfl, .str z1, .str "None", .str _, .str _, (shp_str ok1').shaped, by decide +kernel, ?_⟩
      obtain ⟨zb, b1', b2', b3'⟩ := had_bl (decide (y1 = .non))
      rw [ev]
      refine ⟨_, zb, rfl, b1', (by show 2 ≤ sizeLine; decide), fun d4 hd4 => ?_⟩
      have ez : z2 = zb := Option.some.inj (k2.symm.trans b1')
      subst ez
      have s34 := up (o := .lst [.str "had", .str z2]) hd4
      refine ⟨.list [.str "had", .str z2], .list [.str "had", .str z2], .lst (SqL.of (s34 _ _ (S31 _ _ h2))) (.cons (.str _) (.cons (.str _) .nil)), .lst (SqL.of upd_same) (.cons (.str _) (.cons (.str _) .nil)), b2', b2', ?_⟩
      rw [b3']
      exact k _ (D31.same (S31.trans s34)) (T31.ext (S31.trans s34))
end
theorem sqL_ext {K : PySem.W.Frag} {H H' : Hp} {a : Addr} {xs : List V} (s : LamX.ExtN H H') (h : SqL K H a xs) : SqL K H' a xs := by
  rcases h with (h | ⟨o, h⟩) | h
  · exact .inl (.inl (s _ _ h (fun ps z => by cases z)))
  · exact .inl (.inr ⟨o, s _ _ h (fun ps z => by cases z)⟩)
  · exact .inr h
theorem cut0 (b n m : Int) : grS b [.cut m 0] n = n := by
  show n + beg n m * 0 = n
  omega
theorem so_cut {m : Int} (h1 : 1 ≤ m) (h2 : m ≤ 60) : StkOk 10 [.cut m 0] := ⟨by decide, by decide, fun a ha => by rw [List.mem_singleton.mp ha]; exact ⟨h1, h2, by decide, by decide⟩, by show 1 ≤ 6; decide, by rw [fine_cons]; show m * 1 ≤ 120; omega⟩
theorem nh_cut {m : Int} : NoHead [.cut m 0] := fun a ha => by rw [List.mem_singleton.mp ha]; rfl
theorem so_two : StkOk 10 [.cut 60 0, .filled 2] := by
  refine ⟨by decide, by decide, fun a ha => ?_, by show 2 ≤ 6; decide, by decide⟩
  simp only [List.mem_cons, List.not_mem_nil, or_false] at ha
  rcases ha with rfl | rfl
  · exact ⟨by decide, by decide, by decide, by decide⟩
  · exact ⟨by decide, by decide⟩
theorem nh_two : NoHead [.cut 60 0, .filled 2] := fun a ha => by
  simp only [List.mem_cons, List.not_mem_nil, or_false] at ha
  rcases ha with rfl | rfl <;> rfl
theorem mk_cut {K : PySem.W.Frag} {σ : L2.St} {H : Hp} {Q : VK} {m : Int} {tm : TE} (hm : ∀ G (R : VK), R (.int m) G → tm σ G R) (m1 : 1 ≤ m) (m2 : m ≤ 60) (k : ∀ q G, H q = none → Same H G → StkAt K G q 10 [.cut m 0] → Q (.ref q) G) : tCall (spStackP K) [] E0 (tCons (tC (.int 10)) (tCons (tLst (tCons (tLst (tCons (tC (.str "cut")) (tCons tm (tCons (tC (.int 0)) tNil)))) tNil)) tNil)) σ H Q := by
  refine hm _ _ ⟨(by show 3 ≤ sizeLine; decide), fun e1 he1 => ⟨(by show 1 ≤ sizeLine; decide), fun e2 he2 => ⟨e2, 10, [.ref e1], [.cut m 0], rfl, upd_same, .cons (up he2 _ _ upd_same) .nil, so_cut m1 m2, fun q G nq s h => ?_⟩⟩⟩
  have s2 := (up (H' := H) (o := .lst [.str "cut", .int m, .int 0]) he1).trans (up (o := .lst [.ref e1]) he2)
  exact k q G (same_before s2 nq) (s2.trans s) h
/-- four(..) != [[TooFine, 120, True]] * 4 does not hold -/
theorem ne_tf {K : PySem.W.Frag} {i j : Nat} {σ : L2.St} {H : Hp} {q1 q2 : Addr} {b1 b2 : Int} {ws1 ws2 : List Wr} {N : Bool → Hp → Prop} (hi : σ[i]? = some (some (.ref q1))) (hj : σ[j]? = some (some (.ref q2))) (hT : LamX.Tabs (tabsOf K) H) (hu : StkAt K H q1 b1 ws1) (hv : StkAt K H q2 b2 ws2) (so1 : StkOk b1 ws1) (so2 : StkOk b2 ws2) (nh1 : NoHead ws1) (nh2 : NoHead ws2) (gt : 120 < lcmF ws1 ws2)
    (k : ∀ H', LamX.ExtN H H' → LamX.Tabs (tabsOf K) H' → N false H') :
    tTest (tOp (rNeL K) (tCall (spFour K) [] E0 (tCons (tVar i) (tCons (tVar j) tNil))) (tOp rRep (tLst (tCons (tLst (tCons (tC (.str "TooFine")) (tCons (tC (.int 120)) (tCons (tC (.bl true)) tNil)))) tNil)) (tC (.int 4)))) σ H N := by
  refine ⟨_, hi, _, hj, .ref q1, .ref q2, some (b1, ws1), some (b2, ws2), rfl, hT, fun G e => ⟨q1, rfl, stk_extN e hu, so1⟩, fun G e => ⟨q2, rfl, stk_extN e hv, so2⟩, fun _ _ _ _ z1 z2 => by cases z1; cases z2; exact ⟨nh1, nh2⟩, fun l H1 x1 T1 hF => ?_⟩
  obtain ⟨r1, r2, r3, r4, w1, w2, w3, w4, hl, h1, h2, h3, h4, p1, p2, p3, p4⟩ := hF
  rw [p1.1 gt] at h1
  rw [p2.1 gt] at h2
  rw [p3.1 gt] at h3
  rw [p4.1 gt] at h4
  refine ⟨(by show 3 ≤ sizeLine; decide), fun e1 he1 => ⟨(by show 1 ≤ sizeLine; decide), fun e2 he2 => ⟨e2, 4, [.ref e1], rfl, rfl, upd_same, by decide, by decide, (by show 1 * 4 ≤ sizeLine; decide), fun e3 he3 => ?_⟩⟩⟩
  have t1 := up (H' := H1) (o := .lst [.str "TooFine", .int 120, .bl true]) he1
  have t2 := up (o := .lst [.ref e1]) he2
  have t3 := up (o := .lst (List.replicate (4 : Int).toNat [V.ref e1]).flatten) he3
  have s3 := (t1.trans t2).trans t3
  have g1' := t3 _ _ (t2 _ _ (show (upd H1 e1 (.lst [.str "TooFine", .int 120, .bl true])) e1 = _ from upd_same))
  have rr : ∀ r, H1 r = some (.lst [.str "TooFine", .int 120, .bl true]) → EqL K (upd (upd (upd H1 e1 (.lst [.str "TooFine", .int 120, .bl true])) e2 (.lst [.ref e1])) e3 (.lst (List.replicate (4 : Int).toNat [V.ref e1]).flatten)) 2 (.ref r) (.ref e1) := fun r h => .inr (.inr ⟨r, e1, _, _, rfl, rfl, SqL.of (s3 _ _ h), SqL.of g1', rowE (.inl rfl)⟩)
  exact ⟨2, by decide, ⟨l, e3, _, _, rfl, rfl, SqL.of (s3 _ _ hl), SqL.of upd_same, .cons (rr _ h1) (.cons (rr _ h2) (.cons (rr _ h3) (.cons (rr _ h4) .nil)))⟩, _, rfl, k _ (extN_same x1 s3) (T1.ext s3)⟩
theorem lcm_cut {m : Int} : lcmF [.cut 60 0] [.cut m 0] = ((Int.lcm 60 m : Nat) : Int) := by
  unfold lcmF
  rw [fine_cons, fine_cons]
  show ((Int.lcm (60 * 1) (m * 1) : Nat) : Int) = _
  rw [Int.mul_one, Int.mul_one]
theorem none_cut {m : Int} {r : V} (h : IsFst (fun l => l ≠ 0) (leadF 10 [.cut 60 0] 10 [.cut m 0]) r) : r = .non := by
  refine h.uniq (.inl ⟨rfl, fun n _ hc => hc ?_⟩)
  unfold leadF
  rw [cut0, cut0, Int.sub_self]
theorem some_two {r : V} (h : IsFst (fun l => l ≠ 0) (leadF 10 [.cut 60 0] 10 [.cut 60 0, .filled 2]) r) : r ≠ .non := fun e => by
  rcases h with ⟨_, z⟩ | ⟨n, rfl, _⟩
  · refine z 1 (by decide) ?_
    unfold leadF
    rw [cut0]
    show (1 : Int) - Wr.gr 10 (.filled 2) (grS 10 [.cut 60 0] 1) ≠ 0
    rw [cut0]
    decide
  · cases e
section
variable {P : Program} {w : World} {K : PySem.W.Frag} {mg : Str → Option Value} {base : Heap}
theorem ok_law (T : Tx w K mg) (U : UT K mg base) : PromG P w K mg base 20 "law" s_law ["_law_script"] (spLaw K) := by
  refine PromG.ofT T.dt_law sc_law (fun vs H Q E h => ?_) (fun _ _ _ _ _ _ us hl => match us, hl with | [_], _ => rfl) (fun f A outer s H vs Q E hr hgd h => ?_)
  · obtain ⟨a, ns, rfl, _⟩ := h
    rfl
  · obtain ⟨a, ns, rfl, hS, hl, hz, hT, k⟩ := h
    refine ⟨_, (pss_cons (ps_asg (pe_tup (pa_cons (pe_callP (ok_L_stack T) (hr.mono (by decide)) (by rfl) pass0 (pa_cons pe_int (pa_cons (pe_lst (pa_cons (pe_lst (pa_cons pe_str (pa_cons pe_int (pa_cons pe_int pa_nil)))) pa_nil)) pa_nil))) (pa_cons (pe_callP (ok_L_stack T) (hr.mono (by decide)) (by rfl) pass0 (pa_cons pe_int (pa_cons (pe_lst (pa_cons (pe_lst (pa_cons pe_str (pa_cons pe_int (pa_cons pe_int pa_nil)))) pa_nil)) pa_nil))) pa_nil))) (pg_tup rfl (pgs_cons (pg_name (i := 3) sc_law.nd rfl (Or.inr rfl)) (pgs_cons (pg_name (i := 1) sc_law.nd rfl (Or.inl rfl)) pgs_nil))))
      (pss_cons (ps_if (PW.pt (pw_or (pt_cmpR (op_neL hr.units) (pe_callG (ok_L_four T U) hgd (hr.mono (by decide)) (by rfl) (pa_cons (pv 3) (pa_cons (pv 1) pa_nil))) (pe_op op_rep (pe_lst (pa_cons (pe_lst (pa_cons pe_str (pa_cons pe_int (pa_cons pe_bl pa_nil)))) pa_nil)) pe_int) (nomark _)) (pw_or1 (pt_cmpR (op_neL hr.units) (pe_callG (ok_L_four T U) hgd (hr.mono (by decide)) (by rfl) (pa_cons (pv 1) (pa_cons (pv 3) pa_nil))) (pe_op op_rep (pe_lst (pa_cons (pe_lst (pa_cons pe_str (pa_cons pe_int (pa_cons pe_bl pa_nil)))) pa_nil)) pe_int) (nomark _))))) (pss_one (ps_ret pe_bl)) pss_nil)
      (pss_cons (ps_setLc (i := 2) (own := [("_law_k", 4)]) (g := (gName 4)) (tt := tYes) (by rfl) sc_law.nd rfl rfl (sw_true rfl rfl rfl (by decide +kernel)) (pi_list (pe_lst (pa_cons pe_int (pa_cons pe_int (pa_cons pe_int (pa_cons pe_int pa_nil)))))) (blkOk_by (own := [("_law_k", 4)]) (N := ["_law_script", "_law_same", "_law_told", "_law_sixty", "_law_k"]) (sc := defScope s_law) (by decide +kernel)) (fun _ _ _ _ _ => (pg_name (i := 4) sc_law.nd rfl (Or.inr rfl))) (fun _ _ _ _ _ => pts_nil) (fun _ _ _ _ _ => (pe_ix (show IxR _ (rIxL K) from ix_list) (pe_lamP (T := tabsOf K) (k := 14) T.d_L_outcome (by rfl) sc_L_outcome (fun _ _ _ _ _ _ us hl => match us, hl with | [_], _ => rfl) rfl (.inl rfl) (show Gives _ _ _ _ _ (TOutH K dsC) from gv_L_outcome T hgd (hr.mono (by decide))) (U _ (List.mem_of_getElem? (i := 2) rfl)) rfl (List.mem_of_getElem? (i := 2) rfl) (tabs_u_law T) (hr.mono (by decide)) (LamX.lamS_by (sc := relS { kind := .function, names := [(".0", .local), ("_law_k", .cell), ("_law_outcome", .globalImplicit), ("_law_sixty", .free)], isGenerator := false, isCoroutine := false } (defScope s_law)) (by decide +kernel)) (fun A1 o1 s1 H1 E1 f1 c1 hr => (pe_callP (ok_alikeX T) (hr.mono (by decide)) (gl_lam (by decide +kernel)) LamX_pass (pa_cons (pv 3) (pa_cons (pe_callP (ok_L_stack T) (hr.mono (by decide)) (gl_lam (by decide +kernel)) pass0 (pa_cons pe_int (pa_cons (pe_lst (pa_cons (pe_lst (pa_cons pe_str (pa_cons (pv 4) (pa_cons pe_int pa_nil)))) pa_nil)) pa_nil))) pa_nil))))) pe_int (fun _ _ => rfl))))
      (pss_cons (ps_if (PW.pt (pw_or (pt_cmpR (op_neL hr.units) (pv 2) (pe_op op_rep (pe_lst (pa_cons pe_str pa_nil)) pe_int) (nomark _)) (pw_or1 (pt_cmpR op_isnotBl (pe_callP (ok_alike T) (hr.mono (by decide)) (by rfl) pass0 (pa_cons (pv 3) (pa_cons (pe_callP (ok_L_stack T) (hr.mono (by decide)) (by rfl) pass0 (pa_cons pe_int (pa_cons (pe_lst (pa_cons (pe_lst (pa_cons pe_str (pa_cons pe_int (pa_cons pe_int pa_nil)))) (pa_cons (pe_lst (pa_cons pe_str (pa_cons pe_int pa_nil))) pa_nil))) pa_nil))) pa_nil))) pe_bl (nomark _))))) (pss_one (ps_ret pe_bl)) pss_nil)
      (pss_one (ps_ret (pe_callB (cr_all rfl) (by rfl) T.b_all (by decide +kernel) (pa_cons (pe_lc (own := [("_law_k", 4)]) (g := (gName 4)) (tt := tYes) (by rfl) sc_law.nd (pi_range1 (by rfl) T.b_range (pa_cons (pe_callB (call_max2 rfl) (by rfl) T.b_max (by decide +kernel) (pa_cons pe_int (pa_cons (pe_callB (call_min2 rfl) (by rfl) T.b_min (by decide +kernel) (pa_cons (pe_callB call_len_seq (by rfl) T.b_len (by decide +kernel) (pa_cons (pv 0) pa_nil)) (pa_cons pe_int pa_nil))) pa_nil))) pa_nil)) (blkOk_by (own := [("_law_k", 4)]) (N := ["_law_script", "_law_same", "_law_told", "_law_sixty", "_law_k"]) (sc := defScope s_law) (by decide +kernel)) (fun _ _ _ _ _ => (pg_name (i := 4) sc_law.nd rfl (Or.inl rfl))) (fun _ _ _ _ _ => pts_nil) (fun _ _ _ _ _ => (pe_callG (ok_L_right T U) hgd (hr.mono (by decide)) (by rfl) (pa_cons (pe_callP (ok_L_bowl T) (hr.mono (by decide)) (by rfl) pass0 (pa_cons (pv 0) (pa_cons (pv 4) pa_nil))) pa_nil)))) pa_nil)))))))), ?_⟩
    refine mk_cut (m := 60) (fun _ _ h => h) (by decide) (by decide) (fun q1 G1 nq1 s1 h1 => ?_)
    refine mk_cut (m := 16) (fun _ _ h => h) (by decide) (by decide) (fun q2 G2 nq2 s2 h2 => ⟨(by show 2 ≤ sizeLine; decide), fun tt htt => ⟨tt, _, rfl, SqT.of upd_same, rfl, _, _, rfl, _, _, rfl, rfl, ?_⟩⟩)
    have st := up (o := .tup [.ref q1, .ref q2]) htt
    have h1 := (h1.same s2).same st
    have h2 := h2.same st
    have S3 := (s1.trans s2).trans st
    have T3 := hT.ext S3
    generalize (upd G2 tt (.tup [.ref q1, .ref q2])) = G3 at h1 h2 S3 T3 ⊢
    refine st_eq [some (.ref a), some (.ref q2), none, some (.ref q1), none] rfl ?_
    have so60 := so_cut (m := 60) (by decide) (by decide)
    have so16 := so_cut (m := 16) (by decide) (by decide)
    refine ne_tf rfl rfl T3 h1 h2 so60 so16 nh_cut nh_cut (by rw [lcm_cut]; decide) (fun G4 x4 T4 => iteF ?_)
    have h1 := stk_extN x4 h1
    have h2 := stk_extN x4 h2
    refine ne_tf rfl rfl T4 h2 h1 so16 so60 nh_cut nh_cut (by decide) (fun G5 x5 T5 => iteF (nxtE ?_))
    have h1 := stk_extN x5 h1
    have x5 : LamX.ExtN H G5 := extN_trans (extN_trans (.of S3) x4) x5
    refine ⟨(by show 4 ≤ sizeLine; decide), fun Lk hLk => ⟨Lk, rfl, ⟨_, SqL.of upd_same⟩, fun D hD => ?_⟩⟩
    have s6 := up (H' := G5) (o := .lst [.int 8, .int 24, .int 40, .int 60]) hLk
    have hLk6 : (upd G5 Lk (.lst [.int 8, .int 24, .int 40, .int 60])) Lk = some (.lst [.int 8, .int 24, .int 40, .int 60]) := upd_same
    have h1 := h1.same s6
    have x6 := extN_same x5 s6
    have T6 := T5.ext s6
    generalize (upd G5 Lk (.lst [.int 8, .int 24, .int 40, .int 60])) = G6 at hLk6 h1 x6 T6 hD ⊢
    refine lc_list (K := K) (a := Lk) (xs := [.int 8, .int 24, .int 40, .int 60]) (Pv := fun j G => LamX.ExtN G6 G ∧ LamX.Tabs (tabsOf K) G ∧ G D = some (.lst (List.replicate j (.str "True")))) ⟨.of (up hD), T6.ext (up hD), upd_same⟩ (fun j G _ h => SqL.of (h.1 _ _ hLk6 (fun ps z => by cases z))) ?_ ?_
    · rintro j x G hj ⟨hs, ht, hd⟩
      have j4 : j < 4 := (List.getElem?_eq_some_iff.mp hj).1
      obtain ⟨m, rfl, m1, m2, m3⟩ : ∃ m : Int, x = .int m ∧ 1 ≤ m ∧ m ≤ 60 ∧ ((Int.lcm 60 m : Nat) : Int) ≤ 120 := by
        match j, hj with
        | 0, hj => exact ⟨8, (Option.some.inj hj).symm, by decide, by decide, by decide⟩
        | 1, hj => exact ⟨24, (Option.some.inj hj).symm, by decide, by decide, by decide⟩
        | 2, hj => exact ⟨40, (Option.some.inj hj).symm, by decide, by decide, by decide⟩
        | 3, hj => exact ⟨60, (Option.some.inj hj).symm, by decide, by decide, by decide⟩
        | n + 4, hj => exact absurd hj (by simp)
      refine ⟨rfl, ht, fun Ga en hTa => ?_⟩
      have hda := en _ _ hd (fun ps z => by cases z)
      have h1a := stk_extN (extN_trans hs en) h1
      refine ⟨_, rfl, mk_cut (m := m) (fun _ _ h => ⟨_, rfl, h⟩) m1 m2 (fun q3 Gb nq3 sb h3 => ⟨.ref q1, .ref q3, some (10, [.cut 60 0]), some (10, [.cut m 0]), rfl, ⟨q1, rfl, h1a.same sb, so60⟩, ⟨q3, rfl, h3, so_cut m1 m2⟩, ⟨fun gt => absurd gt (by rw [lcm_cut]; omega), fun le => ⟨nh_cut, nh_cut, fun r Gc sc hr => ?_⟩⟩⟩)⟩
      obtain rfl := none_cut hr
      refine ⟨"True", rfl, fun l hl => ⟨l, _, 1, _, rfl, rfl, SqL.of upd_same, atI_nat (j := 1) rfl, _, up hl _ _ (sc _ _ (sb _ _ hda)), ?_, ?_, ?_, ?_⟩⟩
      · rw [List.length_replicate, sizeLine_eq]
        omega
      · intro b o e z
        rw [upd_ne (ne_of_none e hD)]
        exact up hl _ _ (sc _ _ (sb _ _ (en _ _ (hs _ _ e z) z)))
      · exact tabs_lst (up hl _ _ (sc _ _ (sb _ _ hda))) (((hTa.ext sb).ext sc).ext (up hl))
      · rw [upd_same, List.replicate_succ']
    rintro G7 ⟨x7, T7, hD7⟩
    have hD7 : G7 D = some (.lst [.str "True", .str "True", .str "True", .str "True"]) := hD7
    have h1 := stk_extN x7 h1
    have x7 := extN_trans x6 x7
    refine gn ?_
    refine st_eq [some (.ref a), some (.ref q2), some (.ref D), some (.ref q1), none] rfl ?_
    refine ⟨_, rfl, (by show 1 ≤ sizeLine; decide), fun d1 hd1 => ⟨d1, 4, [.str "True"], rfl, rfl, upd_same, by decide, by decide, (by show 1 * 4 ≤ sizeLine; decide), fun d2 hd2 => ?_⟩⟩
    have s8 := (up (H' := G7) (o := .lst [.str "True"]) hd1).trans (up (o := .lst (List.replicate (4 : Int).toNat [V.str "True"]).flatten) hd2)
    have et : ∀ {G : Hp}, EqL K G 1 (.str "True") (.str "True") := .inl ⟨rfl, rfl⟩
    refine ⟨1, by decide, ⟨D, d2, _, _, rfl, rfl, SqL.of (s8 _ _ hD7), SqL.of upd_same, .cons et (.cons et (.cons et (.cons et .nil)))⟩, _, rfl, iteF ?_⟩
    have h1 := h1.same s8
    have T8 := T7.ext s8
    have x8 := extN_same x7 s8
    generalize (upd (upd G7 d1 (.lst [.str "True"])) d2 (.lst (List.replicate (4 : Int).toNat [V.str "True"]).flatten)) = G8 at h1 T8 x8 ⊢
    refine ⟨_, rfl, (by show 3 ≤ sizeLine; decide), fun e1 he1 => ⟨(by show 2 ≤ sizeLine; decide), fun e2 he2 => ⟨(by show 2 ≤ sizeLine; decide), fun e3 he3 => ⟨e3, 10, [.ref e1, .ref e2], [.cut 60 0, .filled 2], rfl, upd_same, .cons (up he3 _ _ (up he2 _ _ upd_same)) (.cons (up he3 _ _ upd_same) .nil), so_two, fun q3 G9 nq3 s9 h3 => ?_⟩⟩⟩⟩
    have S9 := ((up (H' := G8) (o := .lst [.str "cut", .int 60, .int 0]) he1).trans ((up (o := .lst [.str "filled", .int 2]) he2).trans (up (o := .lst [.ref e1, .ref e2]) he3))).trans s9
    refine ⟨q1, q3, 10, 10, [.cut 60 0], [.cut 60 0, .filled 2], rfl, h1.same S9, h3, so60, so_two, nh_cut, nh_two, by decide, fun r G sr hr => ⟨false, rfl, ?_⟩⟩
    have e : (!decide (V.bl (decide (r = V.non)) = V.bl false)) = false := by
      rw [decide_eq_false (some_two hr)]
      rfl
    refine ⟨false, congrArg V.bl e, iteF (nxtE ?_)⟩
    have S := S9.trans sr
    have hT1 := T8.ext S
    have eN : LamX.ExtN H G := extN_same x8 S
    have hS := sqL_ext eN hS
    refine ⟨_, rfl, _, _, rfl, .inl hS, _, _, rfl, _, _, rfl, _, rfl, ?_, ?_, fun D hD => ?_⟩
    · split <;> split <;> omega
    · split <;> split <;> omega
    refine lc_range (lo := 0) (Pv := fun i H' => LamX.ExtN G H' ∧ LamX.Tabs (tabsOf K) H' ∧ H' D = some (.lst (List.replicate i (.bl true)))) ⟨.of (up hD), hT1.ext (up hD), upd_same⟩ ?_ ?_
    · rintro i H' hi ⟨hs, ht, hl2⟩
      refine ⟨rfl, _, rfl, _, rfl, a, ns, _, rfl, sqL_ext hs hS, by omega, ?_, fun p H3 np s3 hp => ?_⟩
      · rw [List.length_map] at hi
        split at hi <;> split at hi <;> omega
      refine ⟨p, rfl, hp, ht.ext s3, fun H4 d4 t4 => ?_⟩
      have nD : D ≠ p := ne_of_none hl2 np
      have e4 : H4 D = some (.lst (List.replicate i (.bl true))) := d4.kp _ _ nD (fun ps z => by cases z) (s3 _ _ hl2)
      refine ⟨_, e4, ?_, fun b o e tb => ?_, tabs_lst e4 t4, ?_⟩
      · rw [List.length_replicate]
        rw [List.length_map] at hi
        refine Nat.lt_of_lt_of_le (m := 100) ?_ (by decide)
        split at hi <;> split at hi <;> omega
      · have eb := hs _ _ e tb
        rw [upd_ne (ne_of_none e hD)]
        exact d4.kp _ _ (ne_of_none eb np) tb (s3 _ _ eb)
      · rw [upd_same, List.replicate_succ']
    · rintro H' ⟨hs, ht, hl2⟩
      refine ⟨D, List.replicate _ true, rfl, SqL.of (by rw [List.map_replicate]; exact hl2), ?_⟩
      have e : ∀ n : Nat, (List.replicate n true).all id = true := fun n => by simp
      show Q (.bl ((List.replicate _ true).all id)) H'
      rw [e]
      exact k _
end
theorem facts {P : Program} {w : World} {K : PySem.W.Frag} {h : Heap} {mg : Str → Option Value} {f : Addr} (X : K.In h) (G : h.Ns mainGlobals mg) (hfa : mg ("law" : Str) = some (.ref f)) (c0 : SaysX fbL faL fnL tabL w K) (s0 : He5.SaysA [] smL K) :
    ∃ fd : FuncData, (∀ (s : Shared) (v : Value), BindsTo s fd ⟨[v], []⟩ [("_law_script", v)]) ∧ ∀ base : Heap, K.In base → base.Ns mainGlobals mg → UT K mg base → FnG P w K mg base 20 f fd ["_law_script"] (spLaw K) := by
  have T := tx_of (w := w) X G c0 s0
  have c : He.SaysD faL fnL K := c0.t.d
  obtain ⟨fd, F⟩ := c.def_ 53 (d := dd_law) rfl
  have hm := He.glo_ok X G (c.fact 53 (f := .glo "law") rfl)
  have e := hfa.symm.trans hm
  cases e
  have b := FunD.bindsA (ps := ["_law_script"]) F fun _ _ _ _ _ _ us hl => match us, hl with | [_], _ => rfl
  refine ⟨fd, fun s v => b s [v] rfl, fun base _ _ U => ?_⟩
  obtain ⟨f', fd', F', hm', D', _⟩ := (ok_law (P := P) (w := w) (base := base) T U).ex
  cases hm.symm.trans hm'
  have efd : fd' = fd := by
    obtain ⟨_, _, _, _, _, _, _, _, _, _, _, l1, _⟩ := F.ex
    obtain ⟨_, _, _, _, _, _, _, _, _, _, _, l2, _⟩ := D'.ex
    have l2' := l2.symm.trans l1
    injection l2' with l3
    injection l3 with _ _ l4 _
    injection l4
  rw [← efd]
  exact F' 
end Sz
open PySem PySem.W PySem.Calls PyProof.Rows in
set_option maxRecDepth 100000 in
set_option maxHeartbeats 0 in
theorem PySem.Challenge.cw_sizestacks_k33_comparing_refused_holds : PySem.Challenge.rw_sizestacks_k33_comparing_refused.Holds := by
  w_on; o_law
  refine HandSHeadRun.head_any (r := OpenLaw.row PySem.Challenge.rw_sizestacks_k33_comparing_refused) (q := view (OpenLaw.row PySem.Challenge.rw_sizestacks_k33_comparing_refused).prog [88]) (H := Sz.hk) (ob := Sz.ob) (M := 30000) (loose := Sz.looseL) (d := HandSHeadRun.topDef (OpenLaw.row PySem.Challenge.rw_sizestacks_k33_comparing_refused).prog 88) (kwd := []) Sz.ob_eq
    (by kernel_rfl) (fun z => by kernel_rfl) Sz.run (by kernel_rfl) (by kernel_rfl) (by kernel_rfl) (by rfl) (by first | assumption | decide +kernel) (by decide +kernel) ⟨rfl, rfl, rfl, rfl, rfl, by decide +kernel⟩ ?hw ?hc
  case hw => w_witness2
  case hc =>
    refine Sz.walk_ofGT (l := PySem.Challenge.rw_sizestacks_k33_comparing_refused) (n := 63) (k := 20) (x := "_law_script") rfl (by decide) (by kernel_rfl) ⟨rfl, by decide, by decide⟩ ?F
    intro w mg fa h Y G hmg0
    obtain ⟨K, KX, c⟩ := Y
    have hmg : mg ("law" : PySem.Str) = some (.ref fa) := by
      have e : (HandSHeadRun.topDef (OpenLaw.row PySem.Challenge.rw_sizestacks_k33_comparing_refused).prog 88).name = ("law" : PySem.Str) := by kernel_rfl
      rw [← e]
      exact hmg0
    obtain ⟨fd, hb, hF⟩ := Sz.facts (P := (PySem.Challenge.rw_sizestacks_k33_comparing_refused).prog) (w := w) KX G hmg c.x c.s
    have inT : ∀ p ∈ Sz.tfL.map (He.cT K), ∃ d ∈ Sz.tfL, He.cT K d = p := fun p hp => List.mem_map.mp hp
    refine ⟨K, fd, Sz.spLaw K, Sz.tfL.map (He.cT K), KX, fun p hp => ?_, fun p hp => ?_, fun p hp => ?_, hb, fun H a ns hl hz hT hS => ⟨a, ns, rfl, hS, hl, hz, Sz.tabs_start hT, fun _ => rfl⟩, hF⟩
    · obtain ⟨d, hd, rfl⟩ := inT p hp
      exact c.empty d hd
    · obtain ⟨d, hd, rfl⟩ := inT p hp
      exact c.out d hd
    · obtain ⟨d, hd, rfl⟩ := inT p hp
      exact PySem.W.codeHd_of_K KX (c.hd d hd)
