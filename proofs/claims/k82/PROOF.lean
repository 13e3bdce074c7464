import PyProof.Rows.All
import Wide.All
import OpenK.AllK
import Wide.FinOn
import KE.KStateDown
import HandS.ForMost
import HandS.Exc
import HandS.Wide
import HandS.WideBits
import HandS.IsInst
import HandS.Style
import HandS.RaiseMore
import HandS.Defaults
import HandS.Evl
import HandS.EndBits
import HandS.Words
import HandS.WordsExc
import HandS.Head0
import HandS.Head1
import HandS.Head2
import HandS.HeadEnd
import HandS.HeadHook1
import HandS.HeadHook2
import HandS.HeadHook3
import HandS.Star
import HandS.EndTab
import HandS.HeadHook4
import HandS.FStr
import HandS.Text
import HandS.Walk
import KE.GoesMore
import PyProof.LongRange
import HandS.Conv
import PyProof.StrLawsRepr
import PyProof.InstSpecial
import HandS.SetBool
import HandS.Strs
import HandS.SortInts
import HandS.OwnEq
import KE.KFmtOwn
import PyProof.InstNe
import OpenK.KOps
import PyProof.FString3
import PyProof.Rows.StrIntSpec
import HandS.ExcInit
import HandS.HotCalls
import HandS.ExcIs
import HandS.ExcField
import KE.KTryMore
import KE.KExcInit
import HandS.SetFor
import HandS.DeepEq
import HandS.Zip
import HandS.TupAny
import HandS.Replace
import PyProof.MeetsIn
import KE.KMulAny
import HandS.ClsMeth
import HandS.HeadNt
import PyProof.NeKinds
import HandS.Deep
import PyProof.Rows.Range3
import PyProof.InstEq
import HandS.More
import HandS.ExcOwn
import HandS.MakeKwOnly
import HandS.Dict
import HandS.ReplaceLit
import PySem.Challenge.RW_sizestacks_k82_whole_roads_by_payloads
set_option Elab.async false
set_option linter.all false
set_option maxRecDepth 100000
set_option maxHeartbeats 4000000
set_option exponentiation.threshold 20000
/-! Own base: a def by its promise, a few rules more. -/
namespace Sz
open PySem PySem.Spec PyProof.Rows L2

/-- a def of the text, by its name -/
def DefAt (K : PySem.W.Frag) (mg : Str → Option Value) (x : Str) (st : Stmt) : Prop :=
  ∃ f fd, FunD K x x (defArgs st) (defBody st) (defScope st) [] [] f fd ∧ mg x = some (.ref f)

/-- the def named x keeps the promise sp -/
structure Prom (P : Program) (w : World) (K : PySem.W.Frag) (mg : Str → Option Value) (base : Heap) (CX : CXT) (k : Nat) (x : Str) (st : Stmt) (ps : List Str) (sp : Sp) : Prop where
  ex : ∃ f fd, FnOk P w K mg base CX k f fd ps sp ∧ mg x = some (.ref f) ∧ FunD K x x (defArgs st) (defBody st) (defScope st) [] [] f fd ∧ Binds K fd ps []

section
variable {P : Program} {w : World} {K : PySem.W.Frag} {mg : Str → Option Value} {base : Heap}
theorem Prom.of {x : Str} {st : Stmt} {ps N : List Str} {sp : Sp} {k : Nat} (D : DefAt K mg x st) (S : FnScope N ps (defScope st)) (len : ∀ vs H Q E, sp vs H Q E → vs.length = ps.length)
    (hb : ∀ (kV doc pm : Value) (an : Option Addr) (cdv ct : Value) (us : List Value), us.length = ps.length → bindArgs (PySem.W.fnOf x x (defArgs st) (defBody st) (defScope st) .none kV doc pm an cdv ct) ⟨us, []⟩ = pure (ps.zip us))
    (hbody : ∀ (f : Addr) (cdv : Value) (A : Around) (outer : List Env) (s : Shared) (H : Hp) (vs : List V) (Q : VK) (E : XK), Room k (A.deeper (envOfC x (defScope st) s.heap.objs.size f cdv)) → sp vs H Q E →
      ∃ t, PSs (cxOf CX0 P w K mg base N x (defScope st) f cdv A outer s H E).nox (defBody st) t ∧ t { nx := fun _ H' => Q .non H', rt := Q } (start N vs) H) :
    Prom P w K mg base CX0 (k + 1) x st ps sp := by
  obtain ⟨f, fd, F, hm⟩ := D
  refine ⟨f, fd, F.ok S len (fun cdv A outer s H vs Q E hr hs => ?_), hm, F, F.bindsN hb⟩
  obtain ⟨t, h1, h2⟩ := hbody f cdv A outer s H vs Q E hr hs
  exact ⟨t, h1.nox, h2⟩
end

section
variable {X : Cx} {CX : CXT} {k : Nat} {x : Str} {st : Stmt} {ps : List Str} {sp : Sp} {E : XK} {e : Expr} {es : List Expr} {t tk : TA} {p pos : Pos} {kws : List Keyword} {ks : List Str}
theorem pe_callP (G : Prom X.prog X.w X.K X.mg X.base CX k x st ps sp) (hr : Room k X.A) (hg : Gl X x) (hx : Passes CX X E) (ha : PA X (e :: es) t)
    (hdb : (x == ("__debug__" : Str)) = false := by decide) (he : starEach (e :: es) X.env = (false, eval e X.env) :: starEach es X.env := by rfl) (hpl : (backTo pos (starEach es X.env)).any (·.1) = false := by rfl) :
    PE X (.Call (.Name x p) (e :: es) [] pos) (tCall sp [] E t) := by
  obtain ⟨f, fd, F, hm, D, hb⟩ := G.ex
  exact pe_call F hr hg hm D.kp hb .nil hx ha hdb he hpl
/-- f(k = v, ..), keywords alone -/
theorem pe_callKP {g : List Value → List Value → List Value} {gV : List V → List V → List V} (G : Prom X.prog X.w X.K X.mg X.base CX k x st ps sp) (hr : Room k X.A) (hg : Gl X x) 
    (hb : ∀ fd f, FunD X.K x x (defArgs st) (defBody st) (defScope st) [] [] f fd → KBinds X.K fd ps ks g gV) (hx : Passes CX X E)
    (hkw : PK X kws tk) (hall : (backToKw pos (keywordEach kws X.env)).all (·.1.isSome) = true := by rfl) (hks : (backToKw pos (keywordEach kws X.env)).filterMap (·.1) = ks := by rfl)
    (hdb : (x == ("__debug__" : Str)) = false := by decide)
    (hpl : ((backTo pos (starEach [] X.env)).any (·.1) || (backToKw pos (keywordEach kws X.env)).any (·.1.isNone)) = false := by rfl) :
    PE X (.Call (.Name x p) [] kws pos) (tCallK sp gV E tNil tk) := by
  obtain ⟨f, fd, F, hm, D, _⟩ := G.ex
  have hb := hb fd f D
  refine ⟨fun pins s σ H Q I h => ?_⟩
  refine wpAny_Call_Name_kw (ld_glob I hg hm ?_ hdb)
  refine PySem.W.callWith_KW0 (h₀ := X.base) I.ok.mod.kin D.kp hall (thn (hkw.run pos pins s σ H _ I h) fun ws s2 z => ?_) hpl
  obtain ⟨zs, H2, I2, rz, q2⟩ := z
  refine ⟨I2.kIn, ?_⟩
  rw [hks]
  exact run_fnk F hr hb hx I2 .nil rz q2
/-- the keywords' values put in the parameters' order -/
def perm {α : Type} (ix : List Nat) (us ws : List α) : List α := match us with
  | [] => if ws.length = ix.length then ix.filterMap fun i => ws[i]? else []
  | _ :: _ => []
theorem perm_vals {ix : List Nat} {vs zs : List V} {us ws : List Value} (r : Vals vs us) (z : Vals zs ws) : Vals (perm ix vs zs) (perm ix us ws) := by
  cases r with
  | cons _ _ => exact .nil
  | nil =>
    show Vals (if zs.length = ix.length then _ else _) (if ws.length = ix.length then _ else _)
    rw [z.length]
    by_cases c : ws.length = ix.length
    · rw [if_pos c, if_pos c]
      clear c
      induction ix with
      | nil => exact .nil
      | cons i ix ih =>
        rw [List.filterMap_cons, List.filterMap_cons]
        cases e : zs[i]? with
        | none =>
          rw [z.none_of e]
          exact ih
        | some v =>
          obtain ⟨u, hu, rv⟩ := z.get e
          rw [hu]
          exact .cons rv ih
    · rw [if_neg c, if_neg c]
      exact .nil
theorem kb_of {K : PySem.W.Frag} (ix : List Nat) (hne : 0 < ps.length)
    (h : ∀ (kV doc pm : Value) (an : Option Addr) (cdv ct : Value) (ws : List Value), ws.length = ix.length → bindArgs (PySem.W.fnOf x x (defArgs st) (defBody st) (defScope st) .none kV doc pm an cdv ct) ⟨[], ks.zip ws⟩ = pure (ps.zip (perm ix [] ws))) :
    ∀ fd f, FunD K x x (defArgs st) (defBody st) (defScope st) [] [] f fd → KBinds K fd ps ks (perm ix) (perm ix) := fun fd f F => by
  obtain ⟨oc, od, dV, kV, doc, pm, an, cdv, ct, osl, rfl, lk, hcd, hD, hK⟩ := F.ex
  rcases hD with ⟨_, rfl⟩ | ⟨e, _⟩
  · refine ⟨fun s us ws _ hl => ?_, fun r z => perm_vals r z⟩
    cases us with
    | cons u us =>
      have e0 : (perm ix (u :: us) ws).length = 0 := rfl
      omega
    | nil =>
      by_cases c : ws.length = ix.length
      · exact .of_eq (h kV doc pm an cdv ct ws c)
      · have e0 : perm ix [] ws = [] := if_neg c
        rw [e0] at hl
        simp at hl
        omega
  · exact absurd rfl e
/-- a constant of the module -/
theorem pe_gint {v : Int} (h : ∃ u, X.mg x = some (.int v u)) (hg : Gl X x := by rfl) (hd : (x == ("__debug__" : Str)) = false := by decide) : PE X (.Name x pos) (tC (.int v)) := by
  obtain ⟨u, hm⟩ := h
  exact pe_glob hg hm ⟨_, rfl⟩ hd
theorem op_isnotBl : OpR X (compareOp .IsNot) (fun x y H Q => ∃ b : Bool, y = .bl b ∧ Q (.bl (!decide (x = .bl b))) H) := by
  intro pins s σ H x y v u Q I rx ry h
  obtain ⟨b, rfl, q⟩ := h
  cases (show u = Value.bool b from ry)
  have key : plainIs v (Value.bool b) = true ∧ (v = Value.bool b ↔ x = .bl b) := by
    cases x with
    | non => cases (show v = Value.none from rx); exact ⟨rfl, by constructor <;> intro z <;> cases z⟩
    | bl c => cases (show v = Value.bool c from rx); exact ⟨rfl, by constructor <;> intro z <;> cases z <;> rfl⟩
    | int i => obtain ⟨t, rfl⟩ := (show ∃ t, v = Value.int i t from rx); exact ⟨rfl, by constructor <;> intro z <;> cases z⟩
    | str i => obtain ⟨t, rfl⟩ := (show ∃ t, v = Value.str i t from rx); exact ⟨rfl, by constructor <;> intro z <;> cases z⟩
    | byt i => obtain ⟨t, rfl⟩ := (show ∃ t, v = Value.bytes i t from rx); exact ⟨rfl, by constructor <;> intro z <;> cases z⟩
    | flt i => obtain ⟨t, rfl⟩ := (show ∃ t, v = Value.float i t from rx); exact ⟨rfl, by constructor <;> intro z <;> cases z⟩
    | ref a => cases (show v = Value.ref a from rx); exact ⟨rfl, by constructor <;> intro z <;> cases z⟩
    | ty n => cases (show v = Value.type n from rx); exact ⟨rfl, by constructor <;> intro z <;> cases z⟩
  by_cases e : x = .bl b
  · have ev := key.2.mpr e
    subst ev
    exact wpAny_isNot_self rfl ⟨.bl false, H, I, rfl, by simpa [e] using q⟩
  · exact wpAny_isNot_other key.1 (fun z => e (key.2.mp z)) ⟨.bl true, H, I, rfl, by simpa [e] using q⟩
/-- repr of a flat value -/
def flatShown : V → Option Str
  | .non => some "None"
  | .bl b => some (if b then "True" else "False")
  | .int i => if i.natAbs.log2 < 1920 then some (toString i) else none
  | _ => none
theorem cr_repr : CallR X (.builtin "repr") (fun xs H Q => ∃ v z, xs = [v] ∧ flatShown v = some z ∧ Q (.str z) H) := by
  intro pins s σ H xs us Q I r h
  obtain ⟨v, z, rfl, hz, q⟩ := h
  obtain ⟨u, rfl, ru⟩ := vals1 r
  cases v with
  | non =>
    cases (show u = Value.none from ru)
    obtain rfl : ("None" : Str) = z := Option.some.inj hz
    exact PySem.P.repr_of_none ⟨.str _, H, I.tok _, ⟨_, rfl⟩, q⟩
  | bl b =>
    cases (show u = Value.bool b from ru)
    obtain rfl : (if b then "True" else "False" : Str) = z := Option.some.inj hz
    exact PySem.P.repr_of_bool ⟨.str _, H, I.tok _, ⟨_, rfl⟩, q⟩
  | int i =>
    obtain ⟨t, rfl⟩ := (show ∃ t, u = Value.int i t from ru)
    have hz2 : (if i.natAbs.log2 < 1920 then some (toString i : Str) else none) = some z := hz
    by_cases c : i.natAbs.log2 < 1920
    · rw [if_pos c] at hz2
      obtain rfl := Option.some.inj hz2
      exact PySem.P.repr_of_int c ⟨.str _, H, I.tok _, ⟨_, rfl⟩, q⟩
    · rw [if_neg c] at hz2
      cases hz2
  | _ => cases hz
/-- a power of any size that the model takes -/
def CPowW (i j : Int) : Prop := 1 < i ∧ 0 < j ∧ ∃ n : Nat, i.natAbs < 2 ^ n ∧ (n : Int) * j ≤ 134217728
theorem op_powW : OpR X (binaryOp .Pow) (rI CPowW fun i j => .int (i ^ j.toNat)) := opI fun i j t u s Q E hc q => by
  obtain ⟨h1, h2, n, h3, h4⟩ := hc
  have hb : ¬ Builtin.Int.intTooBig (((Builtin.Int.intBits i : Nat) : Int) * j) = true := by
    have e : bitsLine = 134217728 := by decide
    have b := PyProof.Rows.intBits_le h3
    have m : ((Builtin.Int.intBits i : Nat) : Int) * j ≤ (n : Int) * j := Int.mul_le_mul_of_nonneg_right (by omega) (by omega)
    unfold Builtin.Int.intTooBig
    rw [decide_eq_true_eq, e]
    omega
  refine PySem.AutoIntOps.pow_4 (by omega) (by simpa using (show ¬ j = 0 by omega)) (by simpa using (show ¬ i = 0 ∧ ¬ i = 1 by omega)) (by simpa using (show ¬ i = -1 by omega)) hb ?_
  exact q
/-- divmod by a positive number of at most 30 figures -/
theorem divp_small {i j : Int} (h : 0 < j) (h2 : j ≤ 1000000000000000000000000000000) : CDivP i j := by
  refine ⟨h, PyProof.noPylong_of_log2 ?_⟩
  have h3 : j.natAbs < 2 ^ 200 := Nat.lt_of_le_of_lt (show j.natAbs ≤ 1000000000000000000000000000000 by omega) (by decide)
  exact Nat.lt_of_lt_of_le (PySem.Flt.log2_lt_of (by decide) h3) (by decide)
end
/-! ### what an if's test says -/
theorem ifd {c A B : Prop} [Decidable c] (h1 : c → A) (h2 : ¬ c → B) : if decide c = true then A else B := by
  by_cases h : c
  · rw [decide_eq_true h, if_pos rfl]; exact h1 h
  · rw [decide_eq_false h, if_neg Bool.false_ne_true]; exact h2 h
theorem ifd_pos {c A B : Prop} [Decidable c] (h : c) (hA : A) : if decide c = true then A else B := by
  rw [decide_eq_true h, if_pos rfl]; exact hA
theorem ifd_neg {c A B : Prop} [Decidable c] (h : ¬ c) (hB : B) : if decide c = true then A else B := by
  rw [decide_eq_false h, if_neg Bool.false_ne_true]; exact hB
theorem ifn {c A B : Prop} [Decidable c] (h1 : ¬ c → A) (h2 : c → B) : if (!decide c) = true then A else B := by
  by_cases h : c
  · rw [decide_eq_true h]; exact h2 h
  · rw [decide_eq_false h]; exact h1 h
/-- all but p stands as it stood -/
def Kp (p : Addr) (H H' : Hp) : Prop := ∀ b o, b ≠ p → H b = some o → H' b = some o
theorem Kp.refl (p : Addr) (H : Hp) : Kp p H H := fun _ _ _ h => h
theorem Kp.trans {p : Addr} {H H1 H2 : Hp} (a : Kp p H H1) (b : Kp p H1 H2) : Kp p H H2 := fun c o n h => b c o n (a c o n h)
theorem Kp.set {p : Addr} {H H' : Hp} {o : HO} (a : Kp p H H') : Kp p H (L2.upd H' p o) := fun b u n h => by
  rw [upd_ne n]
  exact a b u n h
theorem Kp.new {p q : Addr} {H H' : Hp} {o : HO} (a : Kp p H H') (h : H' q = none) : Kp p H (upd H' q o) := fun b u n e => by
  have e2 := a b u n e
  rw [upd_ne (ne_of_none e2 h)]
  exact e2
end Sz
/-! a hook that looks at whatever one wants besides, and the table of ranges -/
namespace Sz
open PySem PySem.Spec PyProof.Rows L2
abbrev AlX : Type := Bool × He.AlT
/-- what an object names, its class's line left out: what the module names is there already -/
def refsX (o : Obj) : List Addr := match o.data with
  | .seq its _ => its.toList.flatMap He.refV
  | .dict es _ => es.toList.flatMap fun e => He.refV e.val
  | .func fd => He.refV fd.code ++ (He.refV fd.defaults ++ (He.refV fd.kwdefaults ++ fd.closure.map (·.2)))
  | .cls cd => [cd.ns]
  | .fields vs => vs.toList.flatMap He.refV
  | .cell (some v) => He.refV v
  | _ => []
def layerX (g : Addr → Option Obj) (as : List Addr) : List Addr := as.flatMap fun a => match g a with
  | some o => refsX o
  | none => []
/-- layer by layer, nothing looked at twice -/
def layersX (g : Addr → Option Obj) : Nat → List Addr → List Addr
  | 0, l => l
  | n + 1, l => l ++ layersX g n (layerX g l)
def asX (g : Addr → Option Obj) (n : Nat) : List Addr := layersX g n [mainGlobals]
def obsX (fb : PySem.W.Frag → Bool) (fa : List He.Fa) (fn : List He.DefD) (ts : List He.Tab) (K : PySem.W.Frag) : AlX := (fb K, He.obsT fa fn ts K)
def valX (fn : List He.DefD) (ts : List He.Tab) (w : World) : AlX := (true, He.valT fn ts w)
def obsXG (n : Nat) (fb : PySem.W.Frag → Bool) (fa : List He.Fa) (fn : List He.DefD) (ts : List He.Tab) (g : Addr → Option Obj) : AlX := obsX fb fa fn ts (He.frG g (asX g n))
def SaysX (fb : PySem.W.Frag → Bool) (fa : List He.Fa) (fn : List He.DefD) (ts : List He.Tab) (w : World) (K : PySem.W.Frag) : Prop := obsX fb fa fn ts K = valX fn ts w
def hookX (n : Nat) (fb : PySem.W.Frag → Bool) (fa : List He.Fa) (fn : List He.DefD) (ts : List He.Tab) : PySem.W.Hook where
  α := AlX
  obs := fun s => obsXG n fb fa fn ts s.heap.get?
  val := fun w => valX fn ts w
  says := fun w h => ∃ K : PySem.W.Frag, K.In h ∧ SaysX fb fa fn ts w K
  of := fun _ _ e => ⟨_, He.frG_in, e⟩
  keeps := fun _ _ _ ⟨K, hK, c⟩ k => ⟨K, PySem.W.Frag.In.keeps hK k, c⟩
theorem obsXG_eq {n : Nat} {fb : PySem.W.Frag → Bool} {fa : List He.Fa} {fn : List He.DefD} {ts : List He.Tab} {g : Addr → Option Obj} {s : Shared} (h : ∀ a, g a = s.heap.get? a) : obsXG n fb fa fn ts g = (hookX n fb fa fn ts).obs s := by
  rw [show g = s.heap.get? from funext h]
  rfl
section
variable {fb : PySem.W.Frag → Bool} {fa : List He.Fa} {fn : List He.DefD} {ts : List He.Tab} {w : World} {K : PySem.W.Frag}
theorem SaysX.t (c : SaysX fb fa fn ts w K) : He.SaysT fa fn ts w K := congrArg (fun z : AlX => z.2) c
theorem SaysX.b (c : SaysX fb fa fn ts w K) : fb K = true := congrArg (fun z : AlX => z.1) c
end
/-! ### the table of ranges: tuples of pairs -/
def pairB (K : PySem.W.Frag) (u : Value) (q : Int × Int) : Bool := match u with
  | .ref a => (match K.lookup a with
    | some ⟨.type c, _, .seq its _, _⟩ => decide (c = "tuple") && (decide (its.size ≤ sizeLine) && He.relAll [.int q.1, .int q.2] its.toList)
    | _ => false)
  | _ => false
def pairsB (K : PySem.W.Frag) : List Value → List (Int × Int) → Bool
  | [], [] => true
  | u :: us, q :: qs => pairB K u q && pairsB K us qs
  | _, _ => false
def rngB (K : PySem.W.Frag) (D : Addr) (kd : Str) (qs : List (Int × Int)) : Bool := match PySem.W.nsIn K D kd with
  | some (some (.ref b)) => (match K.lookup b with
    | some ⟨.type c, _, .seq its _, _⟩ => decide (c = "tuple") && (decide (its.size ≤ sizeLine) && pairsB K its.toList qs)
    | _ => false)
  | _ => false
inductive Pairs (K : PySem.W.Frag) : List V → List (Int × Int) → Prop where
  | nil : Pairs K [] []
  | cons {a : Addr} {xs : List V} {q : Int × Int} {qs : List (Int × Int)} (h : ∀ H, SqT K H a [.int q.1, .int q.2]) (r : Pairs K xs qs) : Pairs K (.ref a :: xs) (q :: qs)
theorem Pairs.len {K : PySem.W.Frag} {xs : List V} {qs : List (Int × Int)} (h : Pairs K xs qs) : xs.length = qs.length := by
  induction h with
  | nil => rfl
  | cons _ _ ih => exact congrArg (· + 1) ih
theorem Pairs.get {K : PySem.W.Frag} {xs : List V} {qs : List (Int × Int)} (h : Pairs K xs qs) : ∀ {i : Nat} {x : V}, xs[i]? = some x → ∃ (a : Addr) (q : Int × Int), x = .ref a ∧ qs[i]? = some q ∧ ∀ H, SqT K H a [.int q.1, .int q.2] := by
  induction h with
  | nil =>
    intro i x e
    simp at e
  | cons h _ ih =>
    intro i x e
    cases i with
    | zero =>
      simp at e
      exact ⟨_, _, e.symm, rfl, h⟩
    | succ i => exact ih (by simpa using e)
theorem pairB_ok {K : PySem.W.Frag} {u : Value} {q : Int × Int} (h : pairB K u q = true) : ∃ a, u = .ref a ∧ ∀ H, SqT K H a [.int q.1, .int q.2] := by
  cases u with
  | ref a =>
    refine ⟨a, rfl, fun H => ?_⟩
    have h : (match K.lookup a with
      | some ⟨.type c, _, .seq its _, _⟩ => decide (c = "tuple") && (decide (its.size ≤ sizeLine) && He.relAll [.int q.1, .int q.2] its.toList)
      | _ => false) = true := h
    cases e : K.lookup a with
    | none =>
      rw [e] at h
      cases h
    | some o =>
      obtain ⟨oc, od, dt, osl⟩ := o
      rw [e] at h
      cases oc with
      | type c =>
        cases dt with
        | seq its n =>
          obtain ⟨h1, h2⟩ := He.ba h
          obtain ⟨h3, h4⟩ := He.ba h2
          exact .inr ⟨_, its, n, e, congrArg Value.type (of_decide_eq_true h1), rfl, of_decide_eq_true h3, He.relAll_ok h4⟩
        | _ => cases h
      | _ => cases dt <;> cases h
  | _ => cases h
theorem pairsB_ok {K : PySem.W.Frag} : ∀ {us : List Value} {qs : List (Int × Int)}, pairsB K us qs = true → ∃ xs, Vals xs us ∧ Pairs K xs qs
  | [], [], _ => ⟨[], .nil, .nil⟩
  | [], _ :: _, h => by cases h
  | _ :: _, [], h => by cases h
  | u :: us, q :: qs, h => by
    obtain ⟨h1, h2⟩ := He.ba (show (pairB K u q && pairsB K us qs) = true from h)
    obtain ⟨a, rfl, ha⟩ := pairB_ok h1
    obtain ⟨xs, r, p⟩ := pairsB_ok h2
    exact ⟨.ref a :: xs, .cons rfl r, .cons ha p⟩
/-- the kind kd has these ranges -/
def Rng (K : PySem.W.Frag) (D : Addr) (kd : Str) (qs : List (Int × Int)) : Prop := ∃ b xs, PySem.W.nsIn K D kd = some (some (.ref b)) ∧ (∀ H, SqT K H b xs) ∧ Pairs K xs qs
theorem rngB_ok {K : PySem.W.Frag} {D : Addr} {kd : Str} {qs : List (Int × Int)} (h : rngB K D kd qs = true) : Rng K D kd qs := by
  unfold rngB at h
  cases e : PySem.W.nsIn K D kd with
  | none =>
    rw [e] at h
    cases h
  | some r =>
    rw [e] at h
    cases r with
    | none => cases h
    | some u =>
      cases u with
      | ref b =>
        have h : (match K.lookup b with
          | some ⟨.type c, _, .seq its _, _⟩ => decide (c = "tuple") && (decide (its.size ≤ sizeLine) && pairsB K its.toList qs)
          | _ => false) = true := h
        cases e2 : K.lookup b with
        | none =>
          rw [e2] at h
          cases h
        | some o =>
          obtain ⟨oc, od, dt, osl⟩ := o
          rw [e2] at h
          cases oc with
          | type c =>
            cases dt with
            | seq its n =>
              obtain ⟨h1, h2⟩ := He.ba h
              obtain ⟨h3, h4⟩ := He.ba h2
              obtain ⟨xs, r, p⟩ := pairsB_ok h4
              exact ⟨b, xs, e, fun H => .inr ⟨_, its, n, e2, congrArg Value.type (of_decide_eq_true h1), rfl, of_decide_eq_true h3, r⟩, p⟩
            | _ => cases h
          | _ => cases dt <;> cases h
      | _ => cases h
/-- RANGES[kind] -/
theorem ix_kd {X : Cx} {d : Addr} {es : Array DictEntry} {n : Nat} (D : KDict X.K X.w d es n) : True := trivial
end Sz
namespace Sz
open PySem PySem.Spec PyProof.Rows L2
/-! ### defs that show containers: nothing is being shown around their call -/
structure FnG (P : Program) (w : World) (K : PySem.W.Frag) (mg : Str → Option Value) (base : Heap) (k : Nat) (f : Addr) (fd : FuncData) (ps : List Str) (sp : Sp) : Prop where
  len : ∀ vs H Q E, sp vs H Q E → vs.length = ps.length
  run : ∀ (A : Around) (outer : List Env) (s : Shared) (H : Hp) (args : Args) (us : List Value) (vs : List V) (Q : VK) (E : XK), Room k A → A.guards = some [] → Env0 P w K mg base A outer s H →
    BindsTo s fd args (ps.zip us) → Vals vs us → sp vs H Q E → codeAny (model P w) A (.call (.ref f) args) (CR CX0 outer P w H s Q E) s
theorem FnG.of {P : Program} {w : World} {K : PySem.W.Frag} {mg : Str → Option Value} {base : Heap} {k : Nat} {f : Addr} {fd : FuncData} {ps : List Str} {sp : Sp} (F : FnOk P w K mg base CX0 k f fd ps sp) : FnG P w K mg base k f fd ps sp :=
  ⟨F.len, fun A outer s H args us vs Q E hr _ e0 hb r h => F.run A outer s H args us vs Q E hr e0 hb r h⟩
/-- from the body -/
theorem fnG_of {P : Program} {w : World} {K : PySem.W.Frag} {mg : Str → Option Value} {base : Heap} {k : Nat} {f : Addr} {x q : Str} {pr : Arguments} {bd : List Stmt} {sc : Scope} {dvs : List V} {kws : List (Str × V)} {fd : FuncData} {N ps : List Str} {sp : Sp}
    (F : FunD K x q pr bd sc dvs kws f fd) (S : FnScope N ps sc) (len : ∀ vs H Q E, sp vs H Q E → vs.length = ps.length)
    (hbody : ∀ (cdv : Value) (A : Around) (outer : List Env) (s : Shared) (H : Hp) (vs : List V) (Q : VK) (E : XK), Room k (A.deeper (envOfC q sc s.heap.objs.size f cdv)) → (A.deeper (envOfC q sc s.heap.objs.size f cdv)).guards = some [] → sp vs H Q E →
      ∃ t, PSs (cxOf CX0 P w K mg base N q sc f cdv A outer s H E).nox bd t ∧ t { nx := fun _ H' => Q .non H', rt := Q } (start N vs) H) : FnG P w K mg base (k + 1) f fd ps sp := by
  obtain ⟨c1, c2, c3, c4, c5, c6, c7, cdv, c9, c10, rfl, look, code, _, _⟩ := F.ex
  refine ⟨len, fun A outer s H args us vs Q E room gd e0 hbind rel want => ?_⟩
  have old : ∀ b o, base.get? b = some o → s.heap.get? b = some o := fun b o e => (e0.bs b o e).1
  have inK : K.In s.heap := e0.mod.kin.keeps old
  have kinds : ∀ y ∈ ps.zip us, sc.names.lookup y.1 = some .local ∨ (sc.names.lookup y.1 = some .cell ∧ ((cellsFrom (s.heap.objs.size + 1) sc.names []).lookup y.1).isSome = true) := by
    rintro ⟨n, v⟩ hy
    have hm : n ∈ ps := (List.of_mem_zip hy).1
    cases S.par n hm with
    | inl z => exact Or.inl z
    | inr z => exact Or.inr ⟨z, PySem.W.cellsFrom_some _ _ _ (.inl z)⟩
  obtain ⟨t, dt, rt⟩ := hbody cdv A outer s H vs Q E (room.deeper _) gd want
  have dt := dt.nox
  refine codeAny_call_function room.depth (inK _ _ look) rfl S.co S.gen rfl (PySem.W.codeRec_of inK code) ?_
  refine hbind _ _ _ _ (wpAny_newFunctionEnv_cells S.kind kinds ?_)
  rintro _ rfl s1 ic
  refine ⟨(e0.mod.nolimit.keeps old).keeps ic.toInCall.keep, codeAny_func ?_⟩
  refine wpAny_mono (dt.run [] s1 (start N vs) H _ (inv_start S room.hd e0 (len _ _ _ _ want) rel ic) rt) ?_ (fun _ _ z => z)
  intro fl s' hs
  cases fl with
  | ret u => exact let ⟨v, _, H', J, rv, qv⟩ := hs; ⟨v, H', J.os, J.bare, J.base, J.hok, rv, qv⟩
  | next => exact let ⟨_, H', J, qv⟩ := hs; ⟨.non, H', J.os, J.bare, J.base, J.hok, rfl, qv⟩
  | brk => exact let ⟨_, _, _, qv⟩ := hs; False.elim qv
  | cont => exact let ⟨_, _, _, qv⟩ := hs; False.elim qv
/-- the def named x keeps the promise sp where nothing is being shown -/
structure PromG (P : Program) (w : World) (K : PySem.W.Frag) (mg : Str → Option Value) (base : Heap) (k : Nat) (x : Str) (st : Stmt) (ps : List Str) (sp : Sp) : Prop where
  ex : ∃ f fd, FnG P w K mg base k f fd ps sp ∧ mg x = some (.ref f) ∧ FunD K x x (defArgs st) (defBody st) (defScope st) [] [] f fd ∧ Binds K fd ps []
section
variable {P : Program} {w : World} {K : PySem.W.Frag} {mg : Str → Option Value} {base : Heap}
theorem PromG.of {x : Str} {st : Stmt} {ps N : List Str} {sp : Sp} {k : Nat} (D : DefAt K mg x st) (S : FnScope N ps (defScope st)) (len : ∀ vs H Q E, sp vs H Q E → vs.length = ps.length)
    (hb : ∀ (kV doc pm : Value) (an : Option Addr) (cdv ct : Value) (us : List Value), us.length = ps.length → bindArgs (PySem.W.fnOf x x (defArgs st) (defBody st) (defScope st) .none kV doc pm an cdv ct) ⟨us, []⟩ = pure (ps.zip us))
    (hbody : ∀ (f : Addr) (cdv : Value) (A : Around) (outer : List Env) (s : Shared) (H : Hp) (vs : List V) (Q : VK) (E : XK), Room k (A.deeper (envOfC x (defScope st) s.heap.objs.size f cdv)) → (A.deeper (envOfC x (defScope st) s.heap.objs.size f cdv)).guards = some [] → sp vs H Q E →
      ∃ t, PSs (cxOf CX0 P w K mg base N x (defScope st) f cdv A outer s H E).nox (defBody st) t ∧ t { nx := fun _ H' => Q .non H', rt := Q } (start N vs) H) :
    PromG P w K mg base (k + 1) x st ps sp := by
  obtain ⟨f, fd, F, hm⟩ := D
  exact ⟨f, fd, fnG_of F S len (fun cdv A outer s H vs Q E hr hg hs => hbody f cdv A outer s H vs Q E hr hg hs), hm, F, F.bindsN hb⟩
theorem Prom.g {x : Str} {st : Stmt} {ps : List Str} {sp : Sp} {k : Nat} (G : Prom P w K mg base CX0 k x st ps sp) : PromG P w K mg base k x st ps sp := by
  obtain ⟨f, fd, F, r⟩ := G.ex
  exact ⟨f, fd, FnG.of F, r⟩
end
section
variable {X : Cx} {k : Nat} {x : Str} {st : Stmt} {ps : List Str} {sp : Sp} {e : Expr} {es : List Expr} {t : TA} {p pos : Pos}
/-- f(..) of such a def -/
theorem pe_callG (G : PromG X.prog X.w X.K X.mg X.base k x st ps sp) (gd : X.A.guards = some []) (hr : Room k X.A) (hg : Gl X x) (ha : PA X (e :: es) t)
    (hdb : (x == ("__debug__" : Str)) = false := by decide) (he : starEach (e :: es) X.env = (false, eval e X.env) :: starEach es X.env := by rfl) (hpl : (backTo pos (starEach es X.env)).any (·.1) = false := by rfl) :
    PE X (.Call (.Name x p) (e :: es) [] pos) (tCall sp [] E0 t) := by
  obtain ⟨f, fd, F, hm, D, hb⟩ := G.ex
  constructor
  intro pins s σ H Q I h
  refine wpAny_Call_Name_kw (ld_glob I hg hm (PySem.W.callWith_K (h₀ := X.base) I.ok.mod.kin D.kp (thn (ha.run pos pins s σ H _ I h) ?_) he hpl) hdb)
  rintro us s1 ⟨vs, H1, I1, rel, want⟩
  refine ⟨I1.kIn, wpAny_call (codeAny_mono (F.run X.A X.stack s1 H1 ⟨us, []⟩ (us ++ []) (vs ++ []) Q E0 hr gd I1.env0 (hb s1 us I1.kIn ?_) (rel.append .nil) want) ?_)⟩
  · rw [← (rel.append Paired.nil).length]
    exact F.len _ _ _ _ want
  · intro r s' hq
    cases r with
    | error z => exact False.elim hq
    | ok fl =>
      cases fl with
      | ret u => exact I1.after hq
      | next => exact False.elim hq
      | brk => exact False.elim hq
      | cont => exact False.elim hq
/-- repr of data at any depth -/
theorem cr_reprD (gd : X.A.guards = some []) (hu : X.A.units + 64 < cLine) : CallR X (.builtin "repr") (fun xs H Q => ∃ (a : Addr) (d : PyData), xs = [.ref a] ∧ Dp X.K H (.ref a) d ∧ d.showable = true ∧ d.hasDict = false ∧ d.depth ≤ 40 ∧ d.shown.length ≤ sizeLine ∧ Q (.str d.shown) H) := by
  intro pins s σ H xs us Q I r h
  obtain ⟨a, d, rfl, hd, h1, h2, h3, h4, q⟩ := h
  obtain ⟨u, rfl, ru⟩ := vals1 r
  obtain ⟨as, rd⟩ := Dp.reads I d _ u hd ru
  cases (show u = Value.ref a from ru)
  refine repr_of_reads' rd h1 (PyData.noDict_hsm h2) gd (by omega) (fun _ _ z => z) (fun h' tok tk kept => ?_) h4
  exact ⟨.str d.shown, H, I.kept (t' := tk) kept, ⟨_, rfl⟩, q⟩
end
/-! ### the law's call -/
section
variable {P : Program} {w : World} {K : PySem.W.Frag} {mg mb : Str → Option Value} {k : Nat} {fa a : Addr} {fd : FuncData} {x : Str} {sp : Sp} {st : Shared} {vs : List Value} {ns : List Int}
/-- the script as the law finds it -/
def scriptHp (K : PySem.W.Frag) (a : Addr) (vs : List Value) (ns : List Int) : Hp := fun b => if b = a ∧ K.lookup a = none then some (.frz { cls := .type "list", data := .seq vs.toArray } (.lst (ns.map V.int))) else none
theorem scriptHp_some {b : Addr} {u : HO} (h : scriptHp K a vs ns b = some u) : b = a ∧ K.lookup a = none ∧ u = .frz { cls := .type "list", data := .seq vs.toArray } (.lst (ns.map V.int)) := by
  unfold scriptHp at h
  by_cases c : b = a ∧ K.lookup a = none
  · rw [if_pos c] at h
    exact ⟨c.1, c.2, (Option.some.inj h).symm⟩
  · rw [if_neg c] at h
    cases h
theorem scriptHp_none {b : Addr} (h : b ≠ a) : scriptHp K a vs ns b = none := if_neg fun z => h z.1
theorem law_callG (KX : K.In st.heap) (gl : st.heap.Ns mainGlobals mg) (bl : st.heap.Ns builtinsNs mb) (bb : ∀ y : Str, y ≠ "__name__" → mb y = bootBuiltins y) (nl : st.heap.NoLimit) (gn : st.gens = #[])
    (ha : st.heap.get? a = some { cls := .type "list", data := .seq vs.toArray }) (hi : IntsAre vs ns) (hl : ns.length ≤ sizeLine) (room : Room k callerA)
    (F : ∀ base : Heap, K.In base → base.Ns mainGlobals mg → FnG P w K mg base k fa fd [x] sp) (bind1 : ∀ (s : Shared) (u : Value), BindsTo s fd ⟨[u], []⟩ [(x, u)])
    (want : ∀ H : Hp, SqL K H a (ns.map V.int) → sp [.ref a] H (fun v _ => v = .bl true) fun _ _ _ => False) :
    codeAny (model P w) callerA (.call (.ref fa) ⟨[.ref a], []⟩) (fun r s' => r = .ok (.ret (.bool true)) ∧ OldK st.heap s'.heap ∧ s'.os = st.os ∧ AllBare s'.gens) st := by
  have rel : Vals (ns.map V.int) vs := vals_ints hi
  have len : (ns.map V.int).length ≤ sizeLine := by rw [List.length_map]; exact hl
  generalize hH : scriptHp K a vs ns = H
  have sm : ∀ {b u}, H b = some u → b = a ∧ K.lookup a = none ∧ u = .frz { cls := .type "list", data := .seq vs.toArray } (.lst (ns.map V.int)) := fun {b u} e => by
    rw [← hH] at e
    exact scriptHp_some e
  have ok : HOk P w H st.heap := fun b u e => by
    obtain ⟨rfl, _, rfl⟩ := sm e
    exact ⟨ha, len, vs, _, rel, ha⟩
  have sq : SqL K H a (ns.map V.int) := by
    cases lk : K.lookup a with
    | none => exact Or.inl (Or.inr ⟨_, by rw [← hH]; exact if_pos ⟨rfl, lk⟩⟩)
    | some o =>
      have e := (KX a o lk).symm.trans ha
      cases e
      exact Or.inr ⟨_, vs.toArray, _, lk, rfl, rfl, rfl, by rw [List.size_toArray, ← rel.length]; exact len, by simpa using rel⟩
  have hid : ∀ {b o}, st.heap.get? b = some o → H b = none → (hidT st.heap H).get? b = some o := fun e n => hidT_get e n
  have free : ∀ {b : Addr} {m}, st.heap.Ns b m → H b = none := fun {b m} hn => by
    cases e : H b with
    | none => rfl
    | some u =>
      obtain ⟨rfl, _, _⟩ := sm e
      obtain ⟨o, es, ep, e1, e2, _⟩ := hn
      have z := ha.symm.trans e1
      cases z
      cases e2
  have ns1 : ∀ {b : Addr} {m}, st.heap.Ns b m → (hidT st.heap H).Ns b m := fun {b m} hn => by
    have fr := free hn
    obtain ⟨o, es, ep, e1, e2⟩ := hn
    exact ⟨o, es, ep, hid e1 fr, e2⟩
  have inB : K.In (hidT st.heap H) := fun b o e => hid (KX b o e) (by
    cases z : H b with
    | none => rfl
    | some u =>
      obtain ⟨rfl, z2, _⟩ := sm z
      rw [z2] at e
      cases e)
  have md : Mod K mg (hidT st.heap H) := ⟨inB, ns1 gl, ⟨mb, ns1 bl, bb⟩, let ⟨mc, c1, c2⟩ := nl; ⟨mc, ns1 c1, c2⟩⟩
  have env : Env0 P w K mg (hidT st.heap H) callerA [] st H := ⟨rfl, md, fun _ _ e => of_hidT e, Nat.le_of_eq (hidT_size _ _), trivial, fun b z => absurd (show b ∈ ([] : List Addr) from z) (by simp), ok, .of_eq gn⟩
  refine codeAny_mono ((F _ inB (ns1 gl)).run callerA [] st H ⟨[.ref a], []⟩ [.ref a] [.ref a] _ _ room rfl env (bind1 st (.ref a)) (.cons rfl .nil) (want H sq)) fun r s' h => ?_
  cases r with
  | error z => exact False.elim h
  | ok fl =>
    cases fl with
    | next => exact False.elim h
    | brk => exact False.elim h
    | cont => exact False.elim h
    | ret u =>
      obtain ⟨v, H', os, bare, un, ok', ru, qv⟩ := h
      cases (show v = .bl true from qv)
      cases (show u = Value.bool true from ru)
      refine ⟨rfl, OldK.of_keep ?_, os, bare⟩
      intro b o e
      cases z : H b with
      | none => exact un.keep b o e z (by intro y; exact absurd (show b ∈ ([] : List Addr) from y) (by simp)) (by simp)
      | some t =>
        obtain ⟨rfl, _, rfl⟩ := sm z
        have e2 := (ok' _ _ (un.frzs _ _ _ z)).1
        have e3 := ha.symm.trans e
        cases e3
        exact e2
end
/-- a law whose def is a PromG -/
theorem walk_ofG {l : PySem.W.OpenLaw} {n k : Nat} {q : Program} {loose : List Str} {XP : (Str → Option Value) → Heap → Prop} {YP : World → Heap → Prop} {d : DefRec} {x : Str}
    (hn : l.most = some n) (hn2 : n ≤ sizeLine) (hdf : d.params.defaults = []) (room : Room k callerA)
    (F : ∀ (w : World) (mg : Str → Option Value) (fa : Addr) (h : Heap), YP w h → h.Ns mainGlobals mg → mg d.name = some (.ref fa) →
      ∃ (K : PySem.W.Frag) (fd : FuncData) (sp : Sp), K.In h ∧ (∀ (s : Shared) (u : Value), BindsTo s fd ⟨[u], []⟩ [(x, u)]) ∧
        (∀ (H : Hp) (a : Addr) (ns : List Int), ns.length ≤ n → (∀ z ∈ ns, Builtin.Int.intBits z ≤ 1048576) → SqL K H a (ns.map V.int) → sp [.ref a] H (fun v _ => v = .bl true) fun _ _ _ => False) ∧
        ∀ base : Heap, K.In base → base.Ns mainGlobals mg → FnG l.prog w K mg base k fa fd [x] sp) :
    PySem.W.WalkO q loose XP YP l.row.toRowW d [] (fun f vs => PySem.call f vs) := by
  refine Att.attach_callB hn hdf fun w sA sB mg mb fa o pm cd doc a vs ns G Y ho hd hcd hmg hobj hints hlen hbits hg => ?_
  obtain ⟨K, fd, sp, KX, b1, want, hF⟩ := F w mg fa _ Y G.T.g hmg
  exact law_callG KX G.T.g G.T.b G.T.builtins G.T.nolimit hg hobj hints (Nat.le_trans hlen hn2) room hF b1 (fun H hS => want H a ns hlen hbits hS)
end Sz
/-! a head that tells of the tables of code objects too, and the law's call with them -/
namespace Sz
open PySem PySem.Spec PyProof.Rows L2
/-! ### the hook -/
structure SaysU (fb : PySem.W.Frag → Bool) (fa : List He.Fa) (fn : List He.DefD) (ts : List He.Tab) (tf : List He.Defn) (w : World) (h : Heap) (K : PySem.W.Frag) : Prop where
  x : SaysX fb fa fn ts w K
  hd : ∀ p ∈ tf, PySem.W.codeHdIn K (He.cT K p).1 (He.cT K p).2 = true
  out : ∀ p ∈ tf, K.lookup (He.cT K p).2 = none
  empty : ∀ p ∈ tf, h.get? (He.cT K p).2 = some { cls := .none, data := .fields #[] }
def obsUG (n : Nat) (fb : PySem.W.Frag → Bool) (fa : List He.Fa) (fn : List He.DefD) (ts : List He.Tab) (tf : List He.Defn) (g : Addr → Option Obj) : Bool × AlX := (He.tabsB g tf (He.frT g (asX g n)), obsX fb fa fn ts (He.frT g (asX g n)))
def hookU (n : Nat) (fb : PySem.W.Frag → Bool) (fa : List He.Fa) (fn : List He.DefD) (ts : List He.Tab) (tf : List He.Defn) : PySem.W.Hook where
  α := Bool × AlX
  obs := fun s => obsUG n fb fa fn ts tf s.heap.get?
  val := fun w => (true, valX fn ts w)
  says := fun w h => ∃ K : PySem.W.Frag, K.In h ∧ SaysU fb fa fn ts tf w h K
  of := fun w s e => by
    have e1 : He.tabsB s.heap.get? tf (He.frT s.heap.get? (asX s.heap.get? n)) = true := congrArg (fun z : Bool × AlX => z.1) e
    have e2 : obsX fb fa fn ts (He.frT s.heap.get? (asX s.heap.get? n)) = valX fn ts w := congrArg (fun z : Bool × AlX => z.2) e
    have key : ∀ p ∈ tf, PySem.W.codeHdIn (He.frT s.heap.get? (asX s.heap.get? n)) (He.cT (He.frT s.heap.get? (asX s.heap.get? n)) p).1 (He.cT (He.frT s.heap.get? (asX s.heap.get? n)) p).2 = true ∧ ∃ o, s.heap.get? (He.cT (He.frT s.heap.get? (asX s.heap.get? n)) p).2 = some o ∧ He.emptyTab o = true := fun p hp => by
      obtain ⟨h3, h4⟩ := He.ba (List.all_eq_true.mp e1 p hp)
      refine ⟨h3, ?_⟩
      cases q : s.heap.get? (He.cT (He.frT s.heap.get? (asX s.heap.get? n)) p).2 with
      | none =>
        rw [q] at h4
        cases h4
      | some o =>
        rw [q] at h4
        exact ⟨o, rfl, h4⟩
    refine ⟨_, He.frT_in, e2, fun p hp => (key p hp).1, fun p hp => ?_, fun p hp => ?_⟩
    · obtain ⟨_, o, q, z⟩ := key p hp
      exact He.frT_none q z
    · obtain ⟨_, o, q, z⟩ := key p hp
      rw [q, He.emptyTab_eq z]
  keeps := fun _ _ _ ⟨K, hK, c⟩ k => ⟨K, PySem.W.Frag.In.keeps hK k, c.x, c.hd, c.out, fun p hp => k _ _ (c.empty p hp)⟩
theorem obsUG_eq {n : Nat} {fb : PySem.W.Frag → Bool} {fa : List He.Fa} {fn : List He.DefD} {ts : List He.Tab} {tf : List He.Defn} {g : Addr → Option Obj} {s : Shared} (h : ∀ a, g a = s.heap.get? a) : obsUG n fb fa fn ts tf g = (hookU n fb fa fn ts tf).obs s := by
  rw [show g = s.heap.get? from funext h]
  rfl
/-! ### the law's call -/
section
variable {P : Program} {w : World} {K : PySem.W.Frag} {mg mb : Str → Option Value} {k : Nat} {fa a : Addr} {fd : FuncData} {x : Str} {sp : Sp} {st : Shared} {vs : List Value} {ns : List Int} {cs : List (Addr × Addr)}
/-- the script and the tables -/
def scriptHpT (K : PySem.W.Frag) (a : Addr) (vs : List Value) (ns : List Int) (cs : List (Addr × Addr)) : Hp := fun b => if b ∈ cs.map (·.2) then some (.tbl #[]) else scriptHp K a vs ns b
theorem law_callGT (KX : K.In st.heap) (gl : st.heap.Ns mainGlobals mg) (bl : st.heap.Ns builtinsNs mb) (bb : ∀ y : Str, y ≠ "__name__" → mb y = bootBuiltins y) (nl : st.heap.NoLimit) (gn : st.gens = #[])
    (hT : ∀ p ∈ cs, st.heap.get? p.2 = some { cls := .none, data := .fields #[] }) (nT : ∀ p ∈ cs, K.lookup p.2 = none) (C : ∀ p ∈ cs, PySem.W.CodeHd st.heap p.1 p.2)
    (hbm : ∃ (bm : Addr) (ob : Obj), mg "__builtins__" = some (.ref bm) ∧ bm ≠ builtinsNs ∧ st.heap.get? bm = some ob ∧ ob.cls = .type "module" ∧ ob.dict = some builtinsNs ∧ ob.data = .plain)
    (ha : st.heap.get? a = some { cls := .type "list", data := .seq vs.toArray }) (hi : IntsAre vs ns) (hl : ns.length ≤ sizeLine) (room : Room k callerA)
    (F : ∀ base : Heap, K.In base → base.Ns mainGlobals mg → (∀ p ∈ cs, LamX.TabB base mg p.1 p.2) → FnG P w K mg base k fa fd [x] sp) (bind1 : ∀ (s : Shared) (u : Value), BindsTo s fd ⟨[u], []⟩ [(x, u)])
    (want : ∀ H : Hp, (∀ p ∈ cs, H p.2 = some (.tbl #[])) → SqL K H a (ns.map V.int) → sp [.ref a] H (fun v _ => v = .bl true) fun _ _ _ => False) :
    codeAny (model P w) callerA (.call (.ref fa) ⟨[.ref a], []⟩) (fun r s' => r = .ok (.ret (.bool true)) ∧ OldK st.heap s'.heap ∧ s'.os = st.os ∧ AllBare s'.gens) st := by
  have rel : Vals (ns.map V.int) vs := vals_ints hi
  have len : (ns.map V.int).length ≤ sizeLine := by rw [List.length_map]; exact hl
  generalize hH : scriptHpT K a vs ns cs = H
  have isT : ∀ b ∈ cs.map (·.2), st.heap.get? b = some { cls := .none, data := .fields #[] } := fun b hb => by
    obtain ⟨p, hp, e⟩ := List.mem_map.mp hb
    rw [← e]
    exact hT p hp
  have atT : ∀ p ∈ cs, H p.2 = some (.tbl #[]) := fun p hp => by
    rw [← hH]
    exact if_pos (List.mem_map.mpr ⟨p, hp, rfl⟩)
  have aT : a ∉ cs.map (·.2) := fun z => by
    have q := (isT a z).symm.trans ha
    cases q
  have sm : ∀ {b u}, H b = some u → (b ∈ cs.map (·.2) ∧ u = .tbl #[]) ∨ (b ∉ cs.map (·.2) ∧ b = a ∧ K.lookup a = none ∧ u = .frz { cls := .type "list", data := .seq vs.toArray } (.lst (ns.map V.int))) := fun {b u} e => by
    rw [← hH] at e
    by_cases hb : b ∈ cs.map (·.2)
    · exact .inl ⟨hb, (Option.some.inj ((if_pos hb).symm.trans e)).symm⟩
    · exact .inr ⟨hb, scriptHp_some ((if_neg hb).symm.trans e)⟩
  have ok : HOk P w H st.heap := fun b u e => by
    rcases sm e with ⟨hb, rfl⟩ | ⟨_, rfl, _, rfl⟩
    · exact isT b hb
    · exact ⟨ha, len, vs, _, rel, ha⟩
  have sq : SqL K H a (ns.map V.int) := by
    cases lk : K.lookup a with
    | none => exact Or.inl (Or.inr ⟨_, by rw [← hH]; exact (if_neg aT).trans (if_pos ⟨rfl, lk⟩)⟩)
    | some o =>
      have e := (KX a o lk).symm.trans ha
      cases e
      exact Or.inr ⟨_, vs.toArray, _, lk, rfl, rfl, rfl, by rw [List.size_toArray, ← rel.length]; exact len, by simpa using rel⟩
  have hid : ∀ {b o}, st.heap.get? b = some o → H b = none → (hidT st.heap H).get? b = some o := fun e n => hidT_get e n
  -- what is neither a list nor an empty record is not tracked
  have free : ∀ {b : Addr} {o : Obj}, st.heap.get? b = some o → (∀ vs n, o.data ≠ .seq vs n) → o.data ≠ .fields #[] → H b = none := fun {b o} e h1 h2 => by
    cases q : H b with
    | none => rfl
    | some u =>
      rcases sm q with ⟨hb, _⟩ | ⟨_, rfl, _, _⟩
      · cases (isT b hb).symm.trans e
        exact absurd rfl h2
      · cases ha.symm.trans e
        exact absurd rfl (h1 _ _)
  have freeN : ∀ {b : Addr} {m}, st.heap.Ns b m → H b = none := fun {b m} hn => by
    obtain ⟨o, es, ep, e1, e2, _⟩ := hn
    exact free e1 (fun _ _ z => by rw [e2] at z; cases z) (fun z => by rw [e2] at z; cases z)
  have ns1 : ∀ {b : Addr} {m}, st.heap.Ns b m → (hidT st.heap H).Ns b m := fun {b m} hn => by
    have fr := freeN hn
    obtain ⟨o, es, ep, e1, e2⟩ := hn
    exact ⟨o, es, ep, hid e1 fr, e2⟩
  have inB : K.In (hidT st.heap H) := fun b o e => hid (KX b o e) (by
    cases z : H b with
    | none => rfl
    | some u =>
      rcases sm z with ⟨hb, _⟩ | ⟨_, rfl, z2, _⟩
      · obtain ⟨p, hp, ep⟩ := List.mem_map.mp hb
        rw [← ep, nT p hp] at e
        cases e
      · rw [z2] at e
        cases e)
  have md : Mod K mg (hidT st.heap H) := ⟨inB, ns1 gl, ⟨mb, ns1 bl, bb⟩, let ⟨mc, c1, c2⟩ := nl; ⟨mc, ns1 c1, c2⟩⟩
  have TB : ∀ p ∈ cs, LamX.TabB (hidT st.heap H) mg p.1 p.2 := fun p hp => by
    refine ⟨?_, ?_, fun z => ?_⟩
    · obtain ⟨o, us, file, tf, flags, tg, inF, text, tt, e1, r1, r2, r3, r⟩ := C p hp
      exact ⟨o, us, file, tf, flags, tg, inF, text, tt, hid e1 (free e1 (fun _ _ z => by rw [r2] at z; cases z) (fun z => by rw [r2] at z; cases z; simp at r3)), r1, r2, r3, r⟩
    · obtain ⟨bm, ob, b1, b2, b3, b4, b5, b6⟩ := hbm
      refine ⟨bm, ob, b1, b2, fun q => ?_, fun q => ?_, hid b3 (free b3 (fun _ _ z => by rw [b6] at z; cases z) (fun z => by rw [b6] at z; cases z)), b4, b5, b6⟩
      · obtain ⟨o, es, ep, e, hd, _⟩ := gl
        rw [q, e] at b3
        cases b3
        rw [hd] at b6
        cases b6
      · rw [q, hT p hp] at b3
        cases b3
        cases b6
    · obtain ⟨o, es, ep, e, hd, _⟩ := gl
      rw [z, hT p hp] at e
      cases e
      cases hd
  have env : Env0 P w K mg (hidT st.heap H) callerA [] st H := ⟨rfl, md, fun _ _ e => of_hidT e, Nat.le_of_eq (hidT_size _ _), trivial, fun b z => absurd (show b ∈ ([] : List Addr) from z) (by simp), ok, .of_eq gn⟩
  refine codeAny_mono ((F _ inB (ns1 gl) TB).run callerA [] st H ⟨[.ref a], []⟩ [.ref a] [.ref a] _ _ room rfl env (bind1 st (.ref a)) (.cons rfl .nil) (want H atT sq)) fun r s' h => ?_
  cases r with
  | error z => exact False.elim h
  | ok fl =>
    cases fl with
    | next => exact False.elim h
    | brk => exact False.elim h
    | cont => exact False.elim h
    | ret u =>
      obtain ⟨v, H', os, bare, un, ok', ru, qv⟩ := h
      cases (show v = .bl true from qv)
      cases (show u = Value.bool true from ru)
      have old : ∀ b o, b ∉ cs.map (·.2) → st.heap.get? b = some o → s'.heap.get? b = some o := fun b o nb e => by
        cases z : H b with
        | none => exact un.keep b o e z (by intro y; exact absurd (show b ∈ ([] : List Addr) from y) (by simp)) (by simp)
        | some t =>
          rcases sm z with ⟨hb, _⟩ | ⟨_, rfl, _, rfl⟩
          · exact absurd hb nb
          · have e2 := (ok' _ _ (un.frzs _ _ _ z)).1
            cases ha.symm.trans e
            exact e2
      have grown : ∀ p ∈ cs, ∃ more : Array Value, s'.heap.get? p.2 = some { cls := .none, data := .fields more } := fun p hp => by
        obtain ⟨more, z⟩ := un.tbls p.2 #[] (atT p hp)
        exact ⟨_, ok' p.2 _ z⟩
      refine ⟨rfl, ⟨fun b o e => ?_, fun b o e => ?_⟩, os, bare⟩
      · by_cases hb : b ∈ cs.map (·.2)
        · obtain ⟨p, hp, rfl⟩ := List.mem_map.mp hb
          obtain ⟨more, hm⟩ := grown p hp
          cases (hT p hp).symm.trans e
          exact .inr (.inl ⟨((C p hp).tab (hT p hp)).isCodeTable, rfl, #[], more, rfl, by rw [Array.empty_append]; exact hm⟩)
        · exact .inl (old b o hb e)
      · by_cases hb : b ∈ cs.map (·.2)
        · obtain ⟨p, hp, rfl⟩ := List.mem_map.mp hb
          obtain ⟨more, hm⟩ := grown p hp
          exact ⟨_, hm⟩
        · exact ⟨o, old b o hb e⟩
end
/-- a law whose def is a PromG, with tables -/
theorem walk_ofGT {l : PySem.W.OpenLaw} {n k : Nat} {q : Program} {loose : List Str} {XP : (Str → Option Value) → Heap → Prop} {YP : World → Heap → Prop} {d : DefRec} {x : Str}
    (hn : l.most = some n) (hn2 : n ≤ sizeLine) (hdf : d.params.defaults = []) (room : Room k callerA)
    (F : ∀ (w : World) (mg : Str → Option Value) (fa : Addr) (h : Heap), YP w h → h.Ns mainGlobals mg → mg d.name = some (.ref fa) →
      ∃ (K : PySem.W.Frag) (fd : FuncData) (sp : Sp) (cs : List (Addr × Addr)), K.In h ∧ (∀ p ∈ cs, h.get? p.2 = some { cls := .none, data := .fields #[] }) ∧ (∀ p ∈ cs, K.lookup p.2 = none) ∧ (∀ p ∈ cs, PySem.W.CodeHd h p.1 p.2) ∧ (∀ (s : Shared) (u : Value), BindsTo s fd ⟨[u], []⟩ [(x, u)]) ∧
        (∀ (H : Hp) (a : Addr) (ns : List Int), ns.length ≤ n → (∀ z ∈ ns, Builtin.Int.intBits z ≤ 1048576) → (∀ p ∈ cs, H p.2 = some (.tbl #[])) → SqL K H a (ns.map V.int) → sp [.ref a] H (fun v _ => v = .bl true) fun _ _ _ => False) ∧
        ∀ base : Heap, K.In base → base.Ns mainGlobals mg → (∀ p ∈ cs, LamX.TabB base mg p.1 p.2) → FnG l.prog w K mg base k fa fd [x] sp) :
    PySem.W.WalkO q loose XP YP l.row.toRowW d [] (fun f vs => PySem.call f vs) := by
  refine Att.attach_callB hn hdf fun w sA sB mg mb fa o pm cd doc a vs ns G Y ho hd hcd hmg hobj hints hlen hbits hg => ?_
  obtain ⟨K, fd, sp, cs, KX, hT, nT, C, b1, want, hF⟩ := F w mg fa _ Y G.T.g hmg
  exact law_callGT KX G.T.g G.T.b G.T.builtins G.T.nolimit hg hT nT C G.T.bmain hobj hints (Nat.le_trans hlen hn2) room hF b1 (fun H hH hS => want H a ns hlen hbits hH hS)
end Sz
/-! a head of a great program: what is looked at is split over several runs, each of which keeps the kernel's memory low -/
namespace Sz
open PySem PySem.Spec PyProof.Rows L2
theorem map_three {α : Type} {β γ δ δ1 δ2 ε : Type} {o : Option α} {f : α → β} {g : α → γ} {h0 : α → ε} {h1 : α → δ1} {h2 : α → δ2} {h : α → δ} {b : β} {c : γ} {d0 : ε} {d1 : δ1} {d2 : δ2} {d : δ}
    (e0 : o.map (fun s => (f s, g s, h0 s)) = some (b, c, d0)) (e1 : o.map h1 = some d1) (e2 : o.map h2 = some d2) (k : ∀ s, h1 s = d1 → h2 s = d2 → h s = d) : o.map (fun s => (f s, g s, h s)) = some (b, c, d) := by
  cases o with
  | none => cases e0
  | some s =>
    have e0 : (f s, g s, h0 s) = (b, c, d0) := Option.some.inj e0
    have e3 : f s = b := congrArg (fun z => z.1) e0
    have e4 : g s = c := congrArg (fun z => z.2.1) e0
    show some (f s, g s, h s) = some (b, c, d)
    rw [e3, e4, k s (Option.some.inj e1) (Option.some.inj e2)]
theorem map_two {α : Type} {δ δ1 δ2 : Type} {o : Option α} {h1 : α → δ1} {h2 : α → δ2} {h : α → δ} {d1 : δ1} {d2 : δ2} {d : δ}
    (e1 : o.map h1 = some d1) (e2 : o.map h2 = some d2) (k : ∀ s, h1 s = d1 → h2 s = d2 → h s = d) : o.map h = some d := by
  cases o with
  | none => cases e1
  | some s =>
    show some (h s) = some d
    rw [k s (Option.some.inj e1) (Option.some.inj e2)]
theorem obsU_join {n : Nat} {fb : PySem.W.Frag → Bool} {fa : List He.Fa} {f1 f2 : List He.DefD} {ts : List He.Tab} {tf : List He.Defn} {w : World} {g : Addr → Option Obj}
    (e1 : obsUG n (fun _ => true) [] f1 [] [] g = (true, valX f1 [] w)) (e2 : obsUG n fb fa f2 ts tf g = (true, valX f2 ts w)) : obsUG n fb fa (f1 ++ f2) ts tf g = (true, valX (f1 ++ f2) ts w) := by
  simp only [obsUG, obsX, He.obsT, He.obsD, valX, He.valT, He.valD, Prod.mk.injEq, List.all_append, List.map_append, Bool.and_eq_true] at e1 e2 ⊢
  obtain ⟨_, _, ⟨⟨_, a1⟩, a2⟩, _⟩ := e1
  obtain ⟨b1, b2, ⟨⟨b3, b4⟩, b5⟩, b6⟩ := e2
  refine ⟨b1, b2, ⟨⟨b3, a1, b4⟩, ?_⟩, b6⟩
  rw [a2, b5]
end Sz
namespace Sz
/-! ### powers -/
theorem pow_pos {b : Int} (hb : 1 ≤ b) : ∀ j : Nat, 1 ≤ b ^ j
  | 0 => by rw [Int.pow_zero]; exact Int.le_refl 1
  | j + 1 => by
    rw [Int.pow_succ]
    have ih := pow_pos hb j
    have h := Int.mul_le_mul ih hb (by omega) (by omega)
    omega
theorem pow_one (b : Int) : b ^ (0 + 1) = b := by rw [Int.pow_succ, Int.pow_zero, Int.one_mul]
theorem pow_step {b : Int} (hb : 1 ≤ b) (j : Nat) : b ^ j ≤ b ^ (j + 1) := by
  rw [Int.pow_succ]
  have h := Int.mul_le_mul_of_nonneg_left hb (show 0 ≤ b ^ j by have := pow_pos hb j; omega)
  omega
theorem pow_mono {b : Int} (hb : 1 ≤ b) {i : Nat} : ∀ {j : Nat}, i ≤ j → b ^ i ≤ b ^ j
  | 0, h => by
    have e : i = 0 := by omega
    rw [e]
    exact Int.le_refl _
  | j + 1, h => by
    by_cases e : i = j + 1
    · rw [e]
      exact Int.le_refl _
    · exact Int.le_trans (pow_mono hb (j := j) (by omega)) (pow_step hb j)
theorem pow_lt {b : Int} (hb : 2 ≤ b) (j : Nat) : b ^ j < b ^ (j + 1) := by
  rw [Int.pow_succ]
  have h1 := pow_pos (show 1 ≤ b by omega) j
  have h := Int.mul_le_mul_of_nonneg_left hb (show 0 ≤ b ^ j by omega)
  omega
/-- an integer is below the power with its own number -/
theorem lt_pow {b : Int} (hb : 2 ≤ b) : ∀ j : Nat, (j : Int) < b ^ j
  | 0 => by rw [Int.pow_zero]; decide
  | j + 1 => by
    have h1 := lt_pow hb j
    have h2 := pow_lt hb j
    omega
/-! ### figures -/
/-- k is the number of figures of n in the base b -/
def IsF (b n k : Int) : Prop := ∃ j : Nat, k = (j : Int) + 1 ∧ n < b ^ (j + 1) ∧ (j = 0 ∨ b ^ j ≤ n)
theorem isF_le {b n m k l : Int} (hb : 2 ≤ b) (h : n ≤ m) (hk : IsF b n k) (hl : IsF b m l) : k ≤ l := by
  obtain ⟨i, rfl, h1, h2⟩ := hk
  obtain ⟨j, rfl, h3, h4⟩ := hl
  by_cases c : i ≤ j
  · omega
  · rcases h2 with h2 | h2
    · omega
    · have h5 := pow_mono (show 1 ≤ b by omega) (show j + 1 ≤ i by omega)
      omega
theorem isF_eq {b n k l : Int} (hb : 2 ≤ b) (hk : IsF b n k) (hl : IsF b n l) : k = l :=
  Int.le_antisymm (isF_le hb (Int.le_refl n) hk hl) (isF_le hb (Int.le_refl n) hl hk)
theorem isF_pos {b n k : Int} (h : IsF b n k) : 1 ≤ k := by
  obtain ⟨j, rfl, _⟩ := h
  omega
/-- there is such a number -/
theorem isF_ex {b : Int} (hb : 2 ≤ b) (n : Int) : ∃ k, IsF b n k := by
  have key : ∀ m : Nat, ∀ n : Int, n < b ^ (m + 1) → ∃ k, IsF b n k := by
    intro m
    induction m with
    | zero => exact fun n h => ⟨1, 0, rfl, h, .inl rfl⟩
    | succ m ih =>
      intro n h
      by_cases c : n < b ^ (m + 1)
      · exact ih n c
      · exact ⟨(m + 1 : Nat) + 1, m + 1, rfl, h, .inr (by omega)⟩
  refine key n.toNat n ?_
  have h1 := lt_pow hb (n.toNat + 1)
  omega
/-- a bound for the figures -/
theorem isF_bound {b n k : Int} (hb : 2 ≤ b) (m : Nat) (hn : n < 2 ^ m) (h : IsF b n k) : k ≤ (m : Int) + 1 := by
  obtain ⟨j, rfl, h1, h2⟩ := h
  rcases h2 with h2 | h2
  · omega
  · by_cases c : j ≤ m
    · omega
    · exfalso
      have h3 : (2 : Int) ^ j ≤ b ^ j := by
        clear h1 h2 c
        induction j with
        | zero => rw [Int.pow_zero, Int.pow_zero]; exact Int.le_refl 1
        | succ j ih =>
          rw [Int.pow_succ, Int.pow_succ]
          exact Int.mul_le_mul ih hb (by decide) (by have := pow_pos (show 1 ≤ b by omega) j; omega)
      have h4 := pow_mono (show (1 : Int) ≤ 2 by decide) (show m ≤ j by omega)
      omega
end Sz
namespace Sz
/-! ### totals that count their own figures -/
theorem isF_upper {b x g : Int} (hb : 2 ≤ b) {m : Nat} (h : x < b ^ (m + 1)) (hg : IsF b x g) : g ≤ (m : Int) + 1 := by
  obtain ⟨i, rfl, h1, h2⟩ := hg
  by_cases c : i ≤ m
  · omega
  · rcases h2 with h2 | h2
    · omega
    · have := pow_mono (show 1 ≤ b by omega) (show m + 1 ≤ i by omega)
      omega
/-- adding its figures to a number makes one figure more at most -/
theorem fig_grow {b n f g : Int} (hb : 2 ≤ b) (hn : 0 ≤ n) (hf : IsF b n f) (hg : IsF b (n + f) g) : g = f ∨ g = f + 1 := by
  have h1 := isF_le hb (show n ≤ n + f by have := isF_pos hf; omega) hf hg
  obtain ⟨j, rfl, h2, h3⟩ := hf
  have h4 := lt_pow hb (j + 1)
  have h5 : b ^ (j + 1 + 1) = b ^ (j + 1) * b := Int.pow_succ b (j + 1)
  have h6 := Int.mul_le_mul_of_nonneg_left hb (show 0 ≤ b ^ (j + 1) by omega)
  have h7 := isF_upper (m := j + 1) hb (show n + ((j : Int) + 1) < b ^ (j + 1 + 1) by omega) hg
  omega
/-- and then this is the number of figures -/
theorem fig_next {b n f : Int} (hb : 2 ≤ b) (hn : 0 ≤ n) (hf : IsF b n f) (hg : IsF b (n + f) (f + 1)) : IsF b (n + f + 1) (f + 1) := by
  obtain ⟨j, rfl, h2, h3⟩ := hf
  obtain ⟨i, e, h4, h5⟩ := hg
  have e2 : i = j + 1 := by omega
  subst e2
  have h6 := lt_pow hb (j + 1)
  have h7 : b ^ (j + 1 + 1) = b ^ (j + 1) * b := Int.pow_succ b (j + 1)
  have h8 := Int.mul_le_mul_of_nonneg_left hb (show 0 ≤ b ^ (j + 1) by omega)
  refine ⟨j + 1, by omega, by omega, Or.inr ?_⟩
  rcases h5 with h5 | h5
  · omega
  · omega
/-- s is a total of N -/
def Tot (b N s : Int) : Prop := IsF b s (s - N)
structure IsTot (b N s : Int) : Prop where
  tot : Tot b N s
  least : ∀ t, Tot b N t → s ≤ t
theorem isTot_pos {b N s : Int} (h : Tot b N s) : N + 1 ≤ s := by
  have := isF_pos h
  omega
theorem isTot_first {b n f : Int} (hb : 2 ≤ b) (hf : IsF b n f) (hg : IsF b (n + f) f) : IsTot b n (n + f) := by
  refine ⟨?_, fun t ht => ?_⟩
  · have e : n + f - n = f := by omega
    show IsF b (n + f) (n + f - n)
    rw [e]
    exact hg
  · have h1 := isTot_pos ht
    have h2 := isF_le hb (show n ≤ t by omega) hf ht
    omega
theorem isTot_second {b n f : Int} (hb : 2 ≤ b) (hn : 0 ≤ n) (hf : IsF b n f) (hg : IsF b (n + f) (f + 1)) : IsTot b n (n + f + 1) := by
  refine ⟨?_, fun t ht => ?_⟩
  · have e : n + f + 1 - n = f + 1 := by omega
    show IsF b (n + f + 1) (n + f + 1 - n)
    rw [e]
    exact fig_next hb hn hf hg
  · have h1 := isTot_pos ht
    have h2 := isF_le hb (show n ≤ t by omega) hf ht
    by_cases c : t = n + f
    · subst c
      have ht2 : IsF b (n + f) (n + f - n) := ht
      have e : n + f - n = f := by omega
      rw [e] at ht2
      have := isF_eq hb ht2 hg
      omega
    · omega
theorem isTot_eq {b N s t : Int} (h : IsTot b N s) (h2 : IsTot b N t) : s = t := Int.le_antisymm (h.least t h2.tot) (h2.least s h.tot)
/-- two totals lie beside one another -/
theorem tot_near {b N s t : Int} (hb : 2 ≤ b) (hN : 0 ≤ N) (h : Tot b N s) (h2 : Tot b N t) (hst : s ≤ t) : t ≤ s + 1 := by
  obtain ⟨i, e1, h3, h4⟩ := h
  obtain ⟨j, e2, h5, h6⟩ := h2
  by_cases c : t ≤ s + 1
  · exact c
  · exfalso
    have hj : b ^ j ≤ t := by
      rcases h6 with h6 | h6
      · omega
      · exact h6
    obtain ⟨m, hm⟩ : ∃ m : Nat, j = i + 1 + (m + 1) := ⟨j - i - 2, by omega⟩
    have e3 : b ^ j = b ^ (i + 1) * b ^ (m + 1) := by rw [hm, Int.pow_add]
    have p1 := pow_pos (show 1 ≤ b by omega) (i + 1)
    have p0 : 2 ≤ b ^ (i + 1) := by
      have := pow_mono (show 1 ≤ b by omega) (show 0 + 1 ≤ i + 1 by omega)
      rw [pow_one] at this
      omega
    have l1 := lt_pow hb (m + 1)
    have l2 := Int.mul_le_mul_of_nonneg_left (show ((m + 1 : Nat) : Int) + 1 ≤ b ^ (m + 1) by omega) (show 0 ≤ b ^ (i + 1) by omega)
    have l3 : b ^ (i + 1) * (((m + 1 : Nat) : Int) + 1) = b ^ (i + 1) * ((m + 1 : Nat) : Int) + b ^ (i + 1) := by rw [Int.mul_add, Int.mul_one]
    have l4 := Int.mul_le_mul_of_nonneg_right p0 (show 0 ≤ ((m + 1 : Nat) : Int) by omega)
    omega
/-- whether the next integer is a total, too -/
theorem tot_two {b N s g h : Int} (hb : 2 ≤ b) (ht : Tot b N s) (hg : IsF b s g) (hh : IsF b (s + 1) h) : (h > g ↔ Tot b N (s + 1)) := by
  have e1 : g = s - N := isF_eq hb hg ht
  constructor
  · intro c
    have h1 : h = g + 1 := by
      obtain ⟨j, rfl, h2, h3⟩ := hg
      have h4 := isF_upper (m := j + 1) hb (show s + 1 < b ^ (j + 1 + 1) by have := pow_lt hb (j + 1); omega) hh
      omega
    show IsF b (s + 1) (s + 1 - N)
    have e2 : s + 1 - N = h := by omega
    rw [e2]
    exact hh
  · intro c
    have e2 : h = s + 1 - N := isF_eq hb hh c
    omega
theorem isTot_ex {b n : Int} (hb : 2 ≤ b) (hn : 0 ≤ n) : ∃ s, IsTot b n s := by
  obtain ⟨f, hf⟩ := isF_ex hb n
  obtain ⟨g, hg⟩ := isF_ex hb (n + f)
  rcases fig_grow hb hn hf hg with e | e
  · exact ⟨_, isTot_first hb hf (by rw [← e]; rw [e] at hg ⊢; exact hg)⟩
  · exact ⟨_, isTot_second hb hn hf (by rw [← e]; exact hg)⟩
theorem pow_add_le {b : Int} (hb : 2 ≤ b) (j d : Nat) : b ^ j + d ≤ b ^ (j + d) := by
  induction d with
  | zero => simp
  | succ d ih =>
    have := pow_lt hb (j + d)
    have e : j + (d + 1) = j + d + 1 := by omega
    rw [e]
    omega
theorem two_mul_le {b : Int} (hb : 2 ≤ b) : ∀ j : Nat, 2 * (j : Int) ≤ b ^ j + 1
  | 0 => by simp
  | 1 => by rw [show (1 : Nat) = 0 + 1 from rfl, pow_one]; omega
  | j + 2 => by
    have h1 := two_mul_le hb (j + 1)
    have h2 : b ^ (j + 2) = b ^ (j + 1) * b := Int.pow_succ b (j + 1)
    have h3 := pow_mono (show 1 ≤ b by omega) (show 0 + 1 ≤ j + 1 by omega)
    rw [pow_one] at h3
    have h4 := Int.mul_le_mul_of_nonneg_left hb (show 0 ≤ b ^ (j + 1) by omega)
    omega
/-- the totals found ahead of the number k of figures -/
def totA (N s : Int) (two : Bool) (k : Int) : List Int := if k ≤ s - N then [] else if k = s - N + 1 ∨ two = false then [s] else [s, s + 1]
theorem totA_start {b N s : Int} {two : Bool} (h : IsTot b N s) : totA N s two 1 = [] := if_pos (by have := isTot_pos h.tot; omega)
/-- the one with k figures is a total -/
theorem totA_yes {b N s k : Int} {two : Bool} (hb : 2 ≤ b) (hN : 0 ≤ N) (h : IsTot b N s) (h2 : two = true ↔ Tot b N (s + 1)) (hk : Tot b N (N + k)) : totA N s two (k + 1) = totA N s two k ++ [N + k] := by
  have a := h.least _ hk
  have c := tot_near hb hN h.tot hk a
  by_cases e : N + k = s
  · have e1 : totA N s two k = [] := if_pos (by omega)
    have e2 : totA N s two (k + 1) = [s] := by
      unfold totA
      rw [if_neg (by omega), if_pos (Or.inl (by omega))]
    rw [e1, e2, e]
    rfl
  · have e0 : N + k = s + 1 := by omega
    have ht : two = true := h2.mpr (by rw [← e0]; exact hk)
    have e1 : totA N s two k = [s] := by
      unfold totA
      rw [if_neg (by omega), if_pos (Or.inl (by omega))]
    have e2 : totA N s two (k + 1) = [s, s + 1] := by
      unfold totA
      rw [if_neg (by omega), if_neg (by rw [ht]; simp; omega)]
    rw [e1, e2, e0]
    rfl
theorem totA_no {b N s k : Int} {two : Bool} (h : IsTot b N s) (h2 : two = true ↔ Tot b N (s + 1)) (hk : ¬ Tot b N (N + k)) : totA N s two (k + 1) = totA N s two k := by
  have e : N + k ≠ s := fun z => hk (by rw [z]; exact h.tot)
  unfold totA
  by_cases c : k ≤ s - N
  · rw [if_pos c, if_pos (by omega)]
  · rw [if_neg c, if_neg (by omega)]
    by_cases d : k = s - N + 1
    · have d0 : N + k = s + 1 := by omega
      have ht : two = false := by
        cases q : two with
        | false => rfl
        | true => exact absurd (by rw [d0]; exact h2.mp q) hk
      rw [if_pos (Or.inr ht), if_pos (Or.inr ht)]
    · by_cases ht : two = false
      · rw [if_pos (Or.inr ht), if_pos (Or.inr ht)]
      · rw [if_neg (fun z => z.elim (by omega) ht), if_neg (fun z => z.elim (by omega) ht)]
theorem totA_end {b N s : Int} {j : Nat} {two : Bool} (hb : 2 ≤ b) (hN : 0 ≤ N) (h : IsTot b N s) (h2 : two = true ↔ Tot b N (s + 1)) (hj : ¬ b ^ j ≤ N + ((j : Int) + 1)) : totA N s two ((j : Int) + 1) = if two then [s, s + 1] else [s] := by
  have far : ∀ t, Tot b N t → t - N < (j : Int) + 1 := fun t ht => by
    obtain ⟨i, e, h3, h4⟩ := ht
    by_cases c : i < j
    · omega
    · exfalso
      obtain ⟨d, hd⟩ : ∃ d, i = j + d := ⟨i - j, by omega⟩
      have h5 := pow_add_le hb j d
      rw [← hd] at h5
      rcases h4 with h4 | h4
      · have e0 : j = 0 := by omega
        rw [e0] at hj h5
        have : N + 1 ≤ t := by omega
        have e1 : d = 0 := by omega
        rw [e1] at h5
        simp at hj h5
        omega
      · omega
  have f1 := far s h.tot
  unfold totA
  rw [if_neg (by omega)]
  cases ht : two with
  | false => simp
  | true =>
    have f2 := far _ (h2.mp ht)
    rw [if_neg (by simp; omega)]
    rfl
/-- figures grow no faster than numbers -/
theorem fig_lip {b x y f g : Int} (hb : 2 ≤ b) (h : x ≤ y) (hf : IsF b x f) (hg : IsF b y g) : g ≤ f + (y - x) := by
  obtain ⟨j, rfl, h1, h2⟩ := hf
  obtain ⟨d, hd⟩ : ∃ d : Nat, y = x + d := ⟨(y - x).toNat, by omega⟩
  have h3 := pow_add_le hb (j + 1) d
  have h4 := isF_upper (m := j + d) hb (show y < b ^ (j + d + 1) by rw [show j + d + 1 = j + 1 + d by omega]; omega) hg
  omega
/-- the least total of the next one stands right behind the last total -/
theorem tot_step {b N s : Int} {two : Bool} (hb : 2 ≤ b) (hN : 0 ≤ N) (h : IsTot b N s) (h2 : two = true ↔ Tot b N (s + 1)) : IsTot b (N + 1) (s + (if two then [s, s + 1] else [s]).length) := by
  have last : ∃ e : Int, s + (if two then [s, s + 1] else [s]).length = e + 1 ∧ Tot b N e ∧ ¬ Tot b N (e + 1) := by
    cases q : two with
    | false => exact ⟨s, by simp, h.tot, fun z => by rw [q] at h2; have := h2.mpr z; cases this⟩
    | true =>
      refine ⟨s + 1, by simp; omega, h2.mp q, fun z => ?_⟩
      have := tot_near hb hN h.tot z (by omega)
      omega
  obtain ⟨e, e0, e1, e2⟩ := last
  rw [e0]
  obtain ⟨f, hf⟩ := isF_ex hb (e + 1)
  have f1 := isF_le hb (show e ≤ e + 1 by omega) e1 hf
  have f2 := fig_lip hb (show e ≤ e + 1 by omega) e1 hf
  have f3 : f ≠ e + 1 - N := fun z => e2 (by show IsF b (e + 1) (e + 1 - N); rw [← z]; exact hf)
  refine ⟨?_, fun t ht => ?_⟩
  · show IsF b (e + 1) (e + 1 - (N + 1))
    have : f = e + 1 - (N + 1) := by omega
    rw [← this]
    exact hf
  · by_cases c : e + 1 ≤ t
    · exact c
    · have := fig_lip hb (show t ≤ e by omega) ht e1
      omega
/-- the integer ahead of the least total is one of the length ahead -/
theorem tot_ahead {b N s f : Int} (hb : 2 ≤ b) (h : IsTot b N s) (hf : IsF b (s - 1) f) : s - 1 - f = N - 1 := by
  have h1 := fig_lip hb (show s - 1 ≤ s by omega) hf h.tot
  have h2 := isF_le hb (show s - 1 ≤ s by omega) hf h.tot
  have h3 : f ≠ s - 1 - N := fun z => by
    have := h.least (s - 1) (by show IsF b (s - 1) (s - 1 - N); rw [← z]; exact hf)
    omega
  omega
/-- so many integers from one on -/
def irun (s : Int) (n : Nat) : List Int := (List.range n).map fun (i : Nat) => s + (i : Int)
theorem irun_len (s : Int) (n : Nat) : (irun s n).length = n := by
  unfold irun
  simp
theorem irun_app (s : Int) (n : Nat) (two : Bool) : irun s n ++ (if two then [s + n, s + n + 1] else [s + n]) = irun s (n + (if two then [s, s + 1] else [s]).length) := by
  unfold irun
  cases two with
  | false => simp [List.range_succ]
  | true =>
    simp [List.range_succ]
    omega
/-- a total by its power -/
theorem tot_iff {b N : Int} {j : Nat} (hN : 0 ≤ N) (hj : b ^ j ≤ N + ((j : Int) + 1)) : Tot b N (N + ((j : Int) + 1)) ↔ N + ((j : Int) + 1) < b ^ (j + 1) := by
  have e : N + ((j : Int) + 1) - N = (j : Int) + 1 := by omega
  constructor
  · rintro ⟨i, e1, h1, _⟩
    have : i = j := by omega
    rw [this] at h1
    exact h1
  · intro h
    exact ⟨j, e, h, Or.inr hj⟩
end Sz
namespace Sz
/-! ### what wraps make of lengths -/
open Classical in
/-- how many figures -/
noncomputable def figF (b n : Int) : Int := if h : 2 ≤ b then choose (isF_ex h n) else 0
theorem figF_is {b n : Int} (h : 2 ≤ b) : IsF b n (figF b n) := by
  unfold figF
  rw [dif_pos h]
  exact Classical.choose_spec (isF_ex h n)
theorem figF_eq {b n k : Int} (hb : 2 ≤ b) (h : IsF b n k) : k = figF b n := isF_eq hb h (figF_is hb)
theorem figF_pos {b n : Int} (hb : 2 ≤ b) : 1 ≤ figF b n := isF_pos (figF_is hb)
theorem figF_mono {b n m : Int} (hb : 2 ≤ b) (h : n ≤ m) : figF b n ≤ figF b m := isF_le hb h (figF_is hb) (figF_is hb)
theorem figF_lip {b n m : Int} (hb : 2 ≤ b) (h : n ≤ m) : figF b m ≤ figF b n + (m - n) := fig_lip hb h (figF_is hb) (figF_is hb)
open Classical in
/-- the least total -/
noncomputable def totF (b n : Int) : Int := if h : 2 ≤ b ∧ 0 ≤ n then choose (isTot_ex h.1 h.2) else 0
theorem totF_is {b n : Int} (h : 2 ≤ b) (h2 : 0 ≤ n) : IsTot b n (totF b n) := by
  unfold totF
  rw [dif_pos ⟨h, h2⟩]
  exact Classical.choose_spec (isTot_ex h h2)
theorem totF_eq {b n k : Int} (hb : 2 ≤ b) (hn : 0 ≤ n) (h : IsTot b n k) : k = totF b n := isTot_eq h (totF_is hb hn)
/-- how many parts of a size a length begins -/
def beg (n m : Int) : Int := (n + m - 1) / m
inductive Wr where
  | plus (c : Int)
  | told (c : Int)
  | whole (c : Int)
  | pieces (m c : Int)
  | cut (m c : Int)
  | coded (m c : Int)
  | filled (m : Int)
def Wr.kind : Wr → PySem.Str
  | .plus _ => "plus"
  | .told _ => "told"
  | .whole _ => "whole"
  | .pieces _ _ => "pieces"
  | .cut _ _ => "cut"
  | .coded _ _ => "coded"
  | .filled _ => "filled"
def Wr.nums : Wr → List Int
  | .plus c => [c]
  | .told c => [c]
  | .whole c => [c]
  | .pieces m c => [m, c]
  | .cut m c => [m, c]
  | .coded m c => [m, c]
  | .filled m => [m]
def Wr.rng : Wr → List (Int × Int)
  | .plus _ => [(0, 1000)]
  | .told _ => [(0, 1000)]
  | .whole _ => [(0, 1000)]
  | .pieces _ _ => [(1, 60), (0, 60)]
  | .cut _ _ => [(1, 60), (0, 60)]
  | .coded _ _ => [(1, 60), (1, 120)]
  | .filled _ => [(1, 60)]
def Wr.ok : Wr → Prop
  | .plus c => 0 ≤ c ∧ c ≤ 1000
  | .told c => 0 ≤ c ∧ c ≤ 1000
  | .whole c => 0 ≤ c ∧ c ≤ 1000
  | .pieces m c => 1 ≤ m ∧ m ≤ 60 ∧ 0 ≤ c ∧ c ≤ 60
  | .cut m c => 1 ≤ m ∧ m ≤ 60 ∧ 0 ≤ c ∧ c ≤ 60
  | .coded m c => 1 ≤ m ∧ m ≤ 60 ∧ m ≤ c ∧ c ≤ 120
  | .filled m => 1 ≤ m ∧ m ≤ 60
/-- the size that a wrap makes of a length -/
noncomputable def Wr.gr (b : Int) : Wr → Int → Int
  | .plus c, n => n + c
  | .told c, n => n + c + figF b n
  | .whole c, n => totF b (n + c)
  | .pieces m c, n => n / m * (m + c + figF b m) + (if 0 < n % m then n % m + c + figF b (n % m) else 0) + c + 1
  | .cut m c, n => n + beg n m * c
  | .coded m c, n => beg n m * c
  | .filled m, n => beg n m * m
theorem nums_len {w : Wr} : w.nums.length = w.rng.length := by cases w <;> rfl
theorem nums_small {w : Wr} (h : w.ok) : ∀ x ∈ w.nums, 0 ≤ x ∧ x ≤ 1000 := by
  cases w <;> simp only [Wr.ok] at h <;> simp [Wr.nums] <;> omega
theorem beg_le {n m : Int} (hn : 0 ≤ n) (hm : 1 ≤ m) : beg n m ≤ n ∧ 0 ≤ beg n m := by
  unfold beg
  constructor
  · refine Int.le_of_lt_add_one (Int.ediv_lt_of_lt_mul (by omega) ?_)
    have := Int.mul_le_mul_of_nonneg_left hm (show 0 ≤ n by omega)
    have e : (n + 1) * m = n * m + m := by rw [Int.add_mul, Int.one_mul]
    omega
  · exact Int.ediv_nonneg (by omega) (by omega)
theorem fig_small {b m : Int} (hb : 2 ≤ b) (hm : m ≤ 60) : figF b m ≤ 6 := by
  have h : m < b ^ (5 + 1) := by
    have h1 := pow_pos (show 1 ≤ b by omega) 5
    have h2 : (64 : Int) ≤ b ^ 6 := by
      have : ∀ j : Nat, (2 : Int) ^ j ≤ b ^ j := fun j => by
        induction j with
        | zero => simp
        | succ j ih =>
          rw [Int.pow_succ, Int.pow_succ]
          exact Int.mul_le_mul ih hb (by decide) (by have := pow_pos (show 1 ≤ b by omega) j; omega)
      have := this 6
      omega
    show m < b ^ 6
    omega
  have := isF_upper (m := 5) hb h (figF_is hb)
  omega
theorem figF_le {b n : Int} (hb : 2 ≤ b) (hn : 0 ≤ n) : figF b n ≤ n + 1 := by
  have h1 := figF_lip (b := b) hb hn
  have h2 : figF b 0 ≤ 1 := by
    have := isF_upper (m := 0) hb (show (0 : Int) < b ^ (0 + 1) by rw [pow_one]; omega) (figF_is hb)
    omega
  omega
/-- a size is no less than 0, and not too great -/
theorem gr_le {b : Int} {w : Wr} (hb : 2 ≤ b) (h : w.ok) {n : Int} (hn : 0 ≤ n) : 0 ≤ w.gr b n ∧ w.gr b n ≤ 128 * n + 4096 := by
  cases w with
  | plus c =>
    simp only [Wr.ok] at h
    simp only [Wr.gr]
    omega
  | told c =>
    simp only [Wr.ok] at h
    simp only [Wr.gr]
    have h1 := figF_le (b := b) hb hn
    have h2 := figF_pos (b := b) (n := n) hb
    omega
  | whole c =>
    simp only [Wr.ok] at h
    simp only [Wr.gr]
    have t := totF_is hb (show 0 ≤ n + c by omega)
    have h1 := isTot_pos t.tot
    have f := figF_is (b := b) (n := n + c) hb
    have g := figF_is (b := b) (n := n + c + figF b (n + c)) hb
    have fl := figF_le (b := b) (n := n + c) hb (by omega)
    rcases fig_grow hb (show 0 ≤ n + c by omega) f g with e | e
    · have := t.least _ (isTot_first hb f (by rw [e] at g; exact g)).tot
      omega
    · have := t.least _ (isTot_second hb (show 0 ≤ n + c by omega) f (by rw [← e]; exact g)).tot
      omega
  | pieces m c =>
    simp only [Wr.ok] at h
    simp only [Wr.gr]
    have f1 := fig_small (b := b) (m := m) hb h.2.1
    have f2 := figF_pos (b := b) (n := m) hb
    have q0 := Int.ediv_nonneg hn (show 0 ≤ m by omega)
    have q1 : n / m ≤ n := Int.ediv_le_self _ hn
    have r0 := Int.emod_nonneg n (show m ≠ 0 by omega)
    have r1 := Int.emod_lt_of_pos n (show 0 < m by omega)
    have f3 := fig_small (b := b) (m := n % m) hb (by omega)
    have f4 := figF_pos (b := b) (n := n % m) hb
    have p0 := Int.mul_nonneg q0 (show 0 ≤ m + c + figF b m by omega)
    have p1 := Int.mul_le_mul q1 (show m + c + figF b m ≤ 126 by omega) (by omega) hn
    split <;> omega
  | cut m c =>
    simp only [Wr.ok] at h
    simp only [Wr.gr]
    have q := beg_le hn h.1
    have p0 := Int.mul_nonneg q.2 (show 0 ≤ c by omega)
    have p1 := Int.mul_le_mul q.1 (show c ≤ 60 by omega) (by omega) hn
    omega
  | coded m c =>
    simp only [Wr.ok] at h
    simp only [Wr.gr]
    have q := beg_le hn h.1
    have p0 := Int.mul_nonneg q.2 (show 0 ≤ c by omega)
    have p1 := Int.mul_le_mul q.1 (show c ≤ 120 by omega) (by omega) hn
    omega
  | filled m =>
    simp only [Wr.ok] at h
    simp only [Wr.gr]
    have q := beg_le hn h.1
    have p0 := Int.mul_nonneg q.2 (show 0 ≤ m by omega)
    have p1 := Int.mul_le_mul q.1 (show m ≤ 60 by omega) (by omega) hn
    omega
end Sz
/-! own classes: methods and makers by their promises -/
namespace Sz
open PySem PySem.Spec PyProof.Rows L2
/-- a method's def by its class -/
def DefAtM (K : PySem.W.Frag) (C m q : Str) (st : Stmt) : Prop := ∃ fd, FunD K m q (defArgs st) (defBody st) (defScope st) [] [] (He.ma K (He.ga K C) m) fd
/-- the method m of C keeps the promise sp (the receiver stands first) -/
structure PromM (P : Program) (w : World) (K : PySem.W.Frag) (mg : Str → Option Value) (base : Heap) (CX : CXT) (k : Nat) (C m : Str) (ps : List Str) (sp : Sp) : Prop where
  cl : Cls K (He.ga K C)
  me : Meth K (He.ga K C) m (He.ma K (He.ga K C) m)
  ex : ∃ fd, FnOk P w K mg base CX k (He.ma K (He.ga K C) m) fd ps sp ∧ Binds K fd ps []
/-- C(..) keeps the promise sp: what is told of the values handed in -/
structure PromC (P : Program) (w : World) (K : PySem.W.Frag) (mg : Str → Option Value) (base : Heap) (CX : CXT) (k : Nat) (C : Str) (sp : Sp) : Prop where
  make : Mk K (He.ga K C) (He.ma K (He.ga K C) "__init__")
  mg_ : mg C = some (.ref (He.ga K C))
  ex : ∃ sp0, FnR P w K mg base CX k (He.ma K (He.ga K C) "__init__") sp0 ∧ ∀ vs H Q E, sp vs H Q E → ∀ x dx, H x = none → H dx = none → dx ≠ x →
    sp0 (V.ref x :: vs) (upd (upd H dx (.own x)) x (.ins (He.ga K C) dx [])) (fun v H2 => v = .non ∧ Q (.ref x) H2) E
section
variable {P : Program} {w : World} {K : PySem.W.Frag} {mg : Str → Option Value} {base : Heap}
theorem PromM.of {C m q : Str} {st : Stmt} {ps N : List Str} {sp : Sp} {k : Nat} (cl : Cls K (He.ga K C)) (me : Meth K (He.ga K C) m (He.ma K (He.ga K C) m)) (D : DefAtM K C m q st) (S : FnScope N ps (defScope st)) (len : ∀ vs H Q E, sp vs H Q E → vs.length = ps.length)
    (hb : ∀ (kV doc pm : Value) (an : Option Addr) (cdv ct : Value) (us : List Value), us.length = ps.length → bindArgs (PySem.W.fnOf m q (defArgs st) (defBody st) (defScope st) .none kV doc pm an cdv ct) ⟨us, []⟩ = pure (ps.zip us))
    (hbody : ∀ (f : Addr) (cdv : Value) (A : Around) (outer : List Env) (s : Shared) (H : Hp) (vs : List V) (Q : VK) (E : XK), Room k (A.deeper (envOfC q (defScope st) s.heap.objs.size f cdv)) → sp vs H Q E →
      ∃ t, PSs (cxOf CX0 P w K mg base N q (defScope st) f cdv A outer s H E).nox (defBody st) t ∧ t { nx := fun _ H' => Q .non H', rt := Q } (start N vs) H) :
    PromM P w K mg base CX0 (k + 1) C m ps sp := by
  obtain ⟨fd, F⟩ := D
  refine ⟨cl, me, fd, F.ok S len (fun cdv A outer s H vs Q E hr hs => ?_), F.bindsN hb⟩
  obtain ⟨t, h1, h2⟩ := hbody _ cdv A outer s H vs Q E hr hs
  exact ⟨t, h1.nox, h2⟩
/-- a class whose __init__ takes (self, one, *rest) -/
theorem PromC.star {C q p0 p1 pv : Str} {st : Stmt} {N : List Str} {sp sp0 : Sp} {k : Nat} (mk : Mk K (He.ga K C) (He.ma K (He.ga K C) "__init__")) (hm : mg C = some (.ref (He.ga K C))) (D : DefAtM K C "__init__" q st) (S : FnScope N [p0, p1, pv] (defScope st))
    (h0 : ∀ (kV doc pm : Value) (an : Option Addr) (cdv ct a b : Value), bindArgs (PySem.W.fnOf "__init__" q (defArgs st) (defBody st) (defScope st) .none kV doc pm an cdv ct) ⟨[a, b], []⟩ = (newTuple [] >>= fun t => pure [(p0, a), (p1, b), (pv, t)]))
    (h1 : ∀ (kV doc pm : Value) (an : Option Addr) (cdv ct a b r : Value) (rs : List Value), bindArgs (PySem.W.fnOf "__init__" q (defArgs st) (defBody st) (defScope st) .none kV doc pm an cdv ct) ⟨a :: b :: r :: rs, []⟩ = (newTuple (r :: rs) >>= fun t => pure [(p0, a), (p1, b), (pv, t)]))
    (hbody : ∀ (f : Addr) (cdv : Value) (A : Around) (outer : List Env) (s : Shared) (H : Hp) (vs : List V) (Q : VK) (E : XK), Room k (A.deeper (envOfC q (defScope st) s.heap.objs.size f cdv)) → sp0 vs H Q E →
      ∃ t, PSs (cxOf CX0 P w K mg base N q (defScope st) f cdv A outer s H E).nox (defBody st) t ∧ t { nx := fun _ H' => Q .non H', rt := Q } (start N vs) H)
    (hsp : ∀ vs H Q E, sp vs H Q E → ∃ v rest, vs = v :: rest ∧ rest.length ≤ sizeLine ∧ ∀ x dx p, H x = none → H dx = none → dx ≠ x → p ≠ x → p ≠ dx → H p = none →
      sp0 [.ref x, v, .ref p] (upd (upd (upd H dx (.own x)) x (.ins (He.ga K C) dx [])) p (.tup rest)) (fun u H2 => u = .non ∧ Q (.ref x) H2) E) :
    PromC P w K mg base CX0 (k + 1) C sp := by
  obtain ⟨fd, F⟩ := D
  obtain ⟨oc, od, dV, kV, doc, pm, an, cdv, ct, osl, rfl, lk, hcd, hD, hK⟩ := F.ex
  rcases hD with ⟨_, rfl⟩ | ⟨e, _⟩
  · refine ⟨mk, hm, _, StX.fn_star (ps := [p0, p1]) (pv := pv) (sp := sp0) lk hcd S StX.cxUp_none (StX.bind_star2 (B := fun us => bindArgs _ ⟨us, []⟩) (fun a b => h0 kV doc pm an cdv ct a b) fun a b r rs => h1 kV doc pm an cdv ct a b r rs) (fun A outer s H vs Q E hr hs => ?_), fun vs H Q E hs x dx hx hdx ne => ?_⟩
    · obtain ⟨t, h1, h2⟩ := hbody _ cdv A outer s H vs Q E hr hs
      exact ⟨t, h1.nox, h2⟩
    · obtain ⟨v, rest, rfl, hl, hq⟩ := hsp vs H Q E hs
      refine ⟨[.ref x, v], rest, rfl, rfl, hl, fun p hp => ?_⟩
      have nx : p ≠ x := fun z => by rw [z, upd_same] at hp; cases hp
      rw [upd_ne nx] at hp
      have nd : p ≠ dx := fun z => by rw [z, upd_same] at hp; cases hp
      rw [upd_ne nd] at hp
      exact hq x dx p hx hdx ne nx nd hp
  · exact absurd rfl e
end
section
variable {X : Cx} {CX : CXT} {k : Nat} {x C m : Str} {ps : List Str} {sp : Sp} {E : XK} {e o : Expr} {es : List Expr} {ta : TE} {t : TA} {p pos apos : Pos}
theorem pe_methP {pl : Sem Bool} (G : PromM X.prog X.w X.K X.mg X.base CX k C m ps sp) (hr : Room k X.A) (hx : Passes CX X E) (he : PE X o ta) (ha : PA X (e :: es) t)
    (hst : starEach (e :: es) X.env = (false, eval e X.env) :: starEach es X.env := by rfl) (hpl : (backTo pos (starEach es X.env)).any (·.1) = false := by rfl)
    (ht : eval (.Call (.Attribute o m apos) (e :: es) [] pos) X.env = (do
      let ov ← eval o X.env
      standAt apos.atName
      let (f, first) ← holding [ov] (getMethod ov m pl)
      callWith pos f first (backTo pos (starEach (e :: es) X.env)) (backToKw pos (keywordEach [] X.env))) := by rfl) : PE X (.Call (.Attribute o m apos) (e :: es) [] pos) (tMeth (He.ga X.K C) m sp [] E ta t) := by
  obtain ⟨fd, F, b⟩ := G.ex
  exact pe_meth he G.cl G.me F hr b .nil hx ha hst hpl ht
theorem pe_methP0 {pl : Sem Bool} (G : PromM X.prog X.w X.K X.mg X.base CX k C m ps sp) (hr : Room k X.A) (hx : Passes CX X E) (he : PE X o ta)
    (ht : eval (.Call (.Attribute o m apos) [] [] pos) X.env = (do
      let ov ← eval o X.env
      standAt apos.atName
      let (f, first) ← holding [ov] (getMethod ov m pl)
      callWith pos f first (backTo pos (starEach [] X.env)) (backToKw pos (keywordEach [] X.env))) := by rfl) : PE X (.Call (.Attribute o m apos) [] [] pos) (tMeth (He.ga X.K C) m sp [] E ta tNil) := by
  obtain ⟨fd, F, b⟩ := G.ex
  exact pe_meth0 he G.cl G.me F hr b .nil hx ht
/-- C(e, ..) by what is promised of it -/
def tNew (sp : Sp) (E : XK) (t : TA) : TE := fun σ H Q => t σ H fun vs H1 => sp vs H1 Q E
theorem pe_newP (G : PromC X.prog X.w X.K X.mg X.base CX k x sp) (hr : Room (k + 1) X.A) (hg : Gl X x) (hx : Passes CX X E) (ha : PA X (e :: es) t)
    (hdb : (x == ("__debug__" : Str)) = false := by decide) (he : starEach (e :: es) X.env = (false, eval e X.env) :: starEach es X.env := by rfl) (hpl : (backTo pos (starEach es X.env)).any (·.1) = false := by rfl) :
    PE X (.Call (.Name x p) (e :: es) [] pos) (tNew sp E t) := by
  obtain ⟨sp0, F, hs⟩ := G.ex
  refine ⟨fun pins s σ H Q I h => wpAny_Call_Name_kw (ld_glob I hg G.mg_ (PySem.W.callWith_K (h₀ := X.base) I.ok.mod.kin G.make.kp (thn (ha.run pos pins s σ H _ I h) fun us s1 ⟨vs, H1, I1, r, q⟩ => ⟨I1.kIn, ?_⟩) he hpl) hdb)⟩
  exact StX.run_makeR G.make F hr hx I1 r fun a dx h1 h2 h3 => hs vs H1 Q E q a dx h1 h2 h3
/-- C(e, .., *y) -/
theorem pe_newS (G : PromC X.prog X.w X.K X.mg X.base CX k x sp) (hr : Room (k + 1) X.A) (hg : Gl X x) (hx : Passes CX X E) (ha : PA X (e :: es) t)
    (hdb : (x == ("__debug__" : Str)) = false := by decide) (he : starEach (e :: es) X.env = (false, eval e X.env) :: starEach es X.env := by rfl) (hst : (backTo pos (starEach es X.env)).any (·.1) = true := by rfl) :
    PE X (.Call (.Name x p) (e :: es) [] pos) (tNew sp E t) := by
  obtain ⟨sp0, F, hs⟩ := G.ex
  refine ⟨fun pins s σ H Q I h => wpAny_Call_Name_kw (ld_glob I hg G.mg_ (PySem.W.callWith_S2 (h₀ := X.base) I.ok.mod.kin G.make.kp (thn (ha.run pos pins s σ H _ I h) fun us s1 ⟨vs, H1, I1, r, q⟩ => ⟨I1.kIn, ?_⟩) he hst) hdb)⟩
  exact StX.run_makeR G.make F hr hx I1 r fun a dx h1 h2 h3 => hs vs H1 Q E q a dx h1 h2 h3
end
/-- s[i], s a list or a tuple -/
theorem ix_any {X : Cx} : IxR X (fun x y H Q => rIxL X.K x y H Q ∨ rIxT X.K x y H Q) := by
  intro value slice pins s σ H x y v u Q I rx ry h hs
  rcases h with h | h
  · exact ix_list value slice pins s σ H x y v u Q I rx ry h hs
  · exact ix_tup value slice pins s σ H x y v u Q I rx ry h hs
theorem pe_gstr {X : Cx} {x : Str} {pos : Pos} {v : Str} (h : ∃ u, X.mg x = some (.str v u)) (hg : Gl X x := by rfl) (hd : (x == ("__debug__" : Str)) = false := by decide) : PE X (.Name x pos) (tC (.str v)) := by
  obtain ⟨u, hm⟩ := h
  exact pe_glob hg hm ⟨_, rfl⟩ hd
/-- what isinstance asks of an own class -/
structure IsiK (K : PySem.W.Frag) (C : Addr) : Prop where
  cl : Cls K C
  ha : PySem.W.findIn K (.ref C) "__class__" = some (some (.builtin "object.__class__"))
  hn : PySem.W.specialIn K (.builtin "object.__class__") "__get__" = some (some (.builtin "getset_descriptor.__get__"))
  htk : PySem.W.takesIn K (.builtin "object.__class__") = some true
  hm : PySem.W.mroIn K C (.type "object") = some true
def isiB (K : PySem.W.Frag) (C : Addr) : Bool := He.eqO (PySem.W.findIn K (.ref C) "__class__") (some (some (.builtin "object.__class__"))) && (He.eqO (PySem.W.specialIn K (.builtin "object.__class__") "__get__") (some (some (.builtin "getset_descriptor.__get__"))) &&
  (decide (PySem.W.takesIn K (.builtin "object.__class__") = some true) && decide (PySem.W.mroIn K C (.type "object") = some true)))
theorem isiB_ok {K : PySem.W.Frag} {C : Addr} (cl : Cls K C) (h : isiB K C = true) : IsiK K C := by
  obtain ⟨h1, h⟩ := He.ba h
  obtain ⟨h2, h⟩ := He.ba h
  obtain ⟨h3, h4⟩ := He.ba h
  exact ⟨cl, He.eqO_ok h1, He.eqO_ok h2, of_decide_eq_true h3, of_decide_eq_true h4⟩
theorem IsiK.ty {K : PySem.W.Frag} {C : Addr} (i : IsiK K C) {H : Hp} {a dx : Addr} {fs : List (Str × V)} (h : H a = some (.ins C dx fs)) : TyX K H (.ref a) (.ref C) := .base (.ins h i.cl i.ha i.hn i.htk i.hm)
theorem kit_self {K : PySem.W.Frag} {t : Value} : PySem.W.kitOne K t t = some true := by
  unfold PySem.W.kitOne
  rw [if_pos (by simp)]
end Sz
/-! enumerate over a tuple (the hand layer has it for lists): by what the tuple's iterator draws -/
namespace Sz
open PySem PySem.Spec PyProof.Rows L2
/-- enumerate(v) where iter(v) begins an object o -/
theorem meets_enum1 {v : Value} {o : Obj} {Hh : Heap → Prop} (B : Begins v o Hh) : Meets (Builtin.«enumerate.__new__» ⟨[.type "enumerate", v], []⟩) (fun _ R s => Hh s.heap ∧ R (.ok (.ret (.ref (s.heap.push o).objs.size)))
    { s with heap := (s.heap.push o).push { cls := .type "enumerate", data := .fields #[.none, .bool false, .ref s.heap.objs.size, rawInt 0, .none, .none] } }) := .of_wp fun prog w A R s h => by
  obtain ⟨hp, g, d, tk, os⟩ := s
  have hsub := sub_enumerate
  have it1 : ∀ {A' : Around} {Ex : Value → Shared → Prop} {Q : Value → Shared → Prop}, Q (.ref hp.objs.size) ⟨hp.push o, g, d, tk, os⟩ → wpAny (model prog w) A' (pyIter v) Q Ex ⟨hp, g, d, tk, os⟩ := fun q => B.iter prog w _ _ ⟨hp, g, d, tk, os⟩ _ h.1 q
  wp_walk using it1
  refine wpAny_stack_any (fun st => wpAny_pure ?_)
  split
  · rename_i c _ _ _ _ _
    cases (c == Value.type "enumerate") <;> (wp_walk using it1; exact ⟨_, rfl, h.2⟩)
  · wp_walk using it1
    exact ⟨_, rfl, h.2⟩
theorem call_enum1 {prog : Program} {w : World} {A : Around} {Ex : Value → Shared → Prop} {s : Shared} {v : Value} {o : Obj} {Hh : Heap → Prop} {Q : Value → Shared → Prop} (B : Begins v o Hh) (h1 : Hh s.heap)
    (k : ∀ h', IsEnum h' (s.heap.objs.size + 1) s.heap.objs.size 0 .none → h'.get? s.heap.objs.size = some o → (∀ b u, s.heap.get? b = some u → h'.get? b = some u) → Q (.ref (s.heap.objs.size + 1)) { s with heap := h' }) :
    wpAny (model prog w) A (call (.type "enumerate") [v]) Q Ex s := by
  refine callType_new F.called_enumerate (by decide) (F.typeCall_enumerate_1 _) (F.newCall_enumerate_1 _) (fun obj => F.args_object_init_2 obj _) F.entry_enumerate_new (meets_enum1 B) ⟨h1, ?_⟩
  have z : (s.heap.push o).objs.size = s.heap.objs.size + 1 := Heap.size_push ..
  have e := Heap.get?_push_size (s.heap.push o) (o := { cls := .type "enumerate", data := .fields #[.none, .bool false, .ref s.heap.objs.size, rawInt 0, .none, .none] }) rfl
  rw [z] at e
  show _ ∧ _
  rw [z]
  exact ⟨⟨_, e, rfl⟩, k _ e (Heap.get?_push_of_some _ (Heap.get?_push_size _ B.free)) fun b u x => Heap.get?_push_of_some _ (Heap.get?_push_of_some _ x)⟩

/-- the tuple at a, each item in a new pair -/
def IteT (K : PySem.W.Frag) (a : Addr) : It where
  go := fun i H => ∃ (xs : List V) (x : V), SqT K H a xs ∧ xs[i]? = some x
  yld := fun i H v H' => ∃ T x, v = .ref T ∧ H T = none ∧ H' = upd H T (.tup [.int (i : Nat), x]) ∧ ∀ xs, SqT K H a xs → xs[i]? = some x
  stop := fun i H => ∃ xs : List V, SqT K H a xs ∧ xs.length ≤ i
section
variable {X : Cx} {pins : List (Addr × Obj)} {σ : L2.St} {H : Hp} {s : Shared} {a e it : Addr} {i : Nat} {old : Value} {its : List Value}
theorem enumT_walks (hd : X.A.handled = none) (he : IsEnum s.heap e it ((i : Nat) : Int) old) (hit : s.heap.IsTupleIter it a i) (hne : e ≠ it) (p : s.heap.IsTuple a its.toArray) :
    WalksT X.prog X.w X.A e [e, it, a] [e, it] its.toArray.size (fun i vals => ∃ t x, its.toArray[i]? = some x ∧ vals = #[.int i t, x]) (fun i h => (∃ old, IsEnum h e it i old) ∧ h.IsTupleIter it a i ∧ h.IsTuple a its.toArray)
      (fun i T h => (∃ x, IsEnumOut h e it ((i : Int) + 1) x T) ∧ (h.IsTupleIter it a (i + 1) ∧ h.IsTuple a its.toArray) ∧ T ≠ e ∧ T ≠ it) := by
  have n1 : a ≠ it := fun z => by
    obtain ⟨o1, q1, c1, _⟩ := p
    obtain ⟨o2, q2, c2, _⟩ := hit
    rw [z, q2] at q1
    cases q1
    exact absurd (c2.symm.trans c1) (by decide)
  have n2 : e ≠ a := fun z => by
    obtain ⟨o1, q1, c1, _⟩ := p
    have he' : s.heap.get? e = _ := he
    rw [z, q1] at he'
    cases he'
    have c1 : Value.type "enumerate" = Value.type "tuple" := c1
    exact absurd c1 (by decide)
  exact WalksT.enumerateD (A := X.A) (Draws.tuple (A := X.A.in1) hd it a n1 its.toArray) e hne (by simp [hne, n2]) (by simp)
end
theorem enumT_done {prog : Program} {w : World} {A : Around} {Ex : Value → Shared → Prop} {s : Shared} {a e it : Addr} {i : Nat} {old : Value} {items : Array Value} {Q : Option Value → Shared → Prop} (hh : A.handled = none) (he : IsEnum s.heap e it ((i : Nat) : Int) old)
    (hit : s.heap.IsTupleIter it a i) (p : s.heap.IsTuple a items) (hx : items[i]? = none) (k : ∀ h', Heap.ExtBut it s.heap h' → Q none { s with heap := h' }) : wpAny (model prog w) A (pyNext (.ref e)) Q Ex s := by
  unfold pyNext
  refine wpAny_bind (wpAny_attempt (wpAny_callSpecial?_slot (name := Str.ofString "__next__") ⟨_, he, rfl⟩ F.slot_enumerate_next (wpAny_call_entry F.slot_enumerate_next ⟨_, he, rfl⟩ F.entry_enumerate_next ?_ (F.args_enumerate_next_1 _))))
  show wpAny _ _ (field (.ref e) 2 >>= _) _ _ s
  refine wpAny_bind (wpAny_field he rfl (x := .ref it) rfl (wpAny_bind (wpAny_nextOf_tuple_end hh hit p hx fun h' x ext ⟨o, ho, hc⟩ => ?_)))
  exact wpAny_bind (wpAny_isInstance (T := "StopIteration") (b := true) ⟨o, ho, hc⟩ isSubtype_stop (wpAny_pure (k _ ext)))
theorem turn_enumT {P : Program} {w : World} {K : PySem.W.Frag} {elts : List Expr} {kk : Nat} {tpos : Pos} (a e it : Addr) :
    Turn P w K (.Tuple elts kk tpos) (IteT K a) [e, it] e (fun i h => (∃ old, IsEnum h e it ((i : Nat) : Int) old) ∧ h.IsTupleIter it a i ∧ e ≠ it) where
  mem := List.mem_cons_self ..
  obj := fun i h st b hb => by
    obtain ⟨⟨old, he⟩, ⟨o, ho, _, hd⟩, _⟩ := st
    rcases List.mem_cons.mp hb with z | z
    · subst z
      exact ⟨_, he, fun v q => nomatch q⟩
    · rw [List.mem_singleton.mp z]
      exact ⟨o, ho, fun v q => by rw [hd] at q; cases q⟩
  keep := fun i h h' ⟨⟨old, he⟩, hi, hne⟩ k => ⟨⟨old, k e (List.mem_cons_self ..) _ he⟩, hi.at fun o q => k it (List.mem_cons_of_mem _ (List.mem_cons_self ..)) o q, hne⟩
  item := by
    intro X hP hw hK hc i pins s σ H E I hf ⟨⟨old, he⟩, hit, hne⟩ ⟨xs, x, hq, hx⟩
    subst hP hw hK
    obtain ⟨its, rv, p, hz⟩ := I.tuple hq
    obtain ⟨u, hu, ru⟩ := rv.get hx
    have p' : s.heap.IsTuple a its.toArray := p
    have W := enumT_walks (X := X) (I.ok.hd hc) he hit hne p'
    have hlt : i < its.toArray.size := by simpa using (List.getElem?_eq_some_iff.mp hu).1
    refine W.item i s _ E hlt ⟨⟨old, he⟩, hit, p'⟩ fun T vals h' tk hv hT isT mid k1 => ⟨_, rfl, ?_⟩
    obtain ⟨t, y, hy, rfl⟩ := hv
    have ey : u = y := by
      have e1 : its.toArray[i]? = some u := by simpa using hu
      exact Option.some.inj (e1.symm.trans hy)
    subst ey
    refine W.go elts kk tpos i T { s with heap := h', toks := tk } _ E mid fun h2 st2 k2 => ?_
    have away := W.apart i T h' mid
    obtain ⟨oT, hoT, cT, nT, dT⟩ := isT
    have hoT2 : h2.get? T = some oT := k2 T oT away hoT
    have new : ObjOk X.prog X.w (upd H T (.tup [.int (i : Nat), x])) h2 T (.tup [.int (i : Nat), x]) := ⟨by show 2 ≤ sizeLine; decide, [.int i t, u], .cons ⟨_, rfl⟩ (.cons ru .nil), ⟨oT, hoT2, cT, nT, dT⟩⟩
    have I1 : Inv X pins σ (upd H T (.tup [.int (i : Nat), x])) { s with heap := h2, toks := tk } := I.turnedNew (ch := [e, it]) (fun b ob hb q => k2 b ob hb (k1 b ob hb q)) hf hT new
    refine ⟨.ref T, _, I1, rfl, ⟨T, x, rfl, I.hok.fresh hT, rfl, fun ys hy => by rw [I.tuple_inj hy hq]; exact hx⟩, ⟨st2.1, st2.2.1, hne⟩, fun b hb => ?_⟩
    have nb : b ≠ T := fun z => away (by rw [← z]; exact hb)
    rw [upd_ne nb]
    exact (hf b hb).1
  done := by
    intro X hP hw hK hc i pins s σ H E I hf ⟨⟨old, he⟩, hit, hne⟩ ⟨xs, hq, hx⟩
    subst hP hw hK
    obtain ⟨its, rv, p, hz⟩ := I.tuple hq
    have p' : s.heap.IsTuple a its.toArray := p
    have hl := rv.length
    obtain ⟨o, ho, cT, nT, dT⟩ := id p'
    obtain ⟨f0, f1, f2, f3, f4, f5⟩ := hf it (List.mem_cons_of_mem _ (List.mem_cons_self ..))
    refine enumT_done (I.ok.hd hc) he hit p' (by simp; omega) fun h' ex => ⟨rfl, I.turned (t' := s.toks) (fun b ob hb q => ex b ob hb q) f0 f1 f3 f4 f5⟩
  self := fun A i s Q E ⟨⟨_, he⟩, _⟩ h => wpAny_pyIter_enum he h
def iEnumT (K : PySem.W.Frag) (ta : TA) : TI := fun σ H R => ta σ H fun vs H1 => ∃ a xs, vs = [.ref a] ∧ SqT K H1 a xs ∧ R (IteT K a) H1
theorem pi_enumT {X : Cx} {e : Expr} {ta : TA} {p pos tpos : Pos} {elts : List Expr} {kk : Nat} (hg : Gl X "enumerate") (hm : X.mg "enumerate" = none) (ha : PA X [e] ta) (hs : starEach [e] X.env = [(false, eval e X.env)] := by rfl) :
    PI X (.Tuple elts kk tpos) (.Call (.Name "enumerate" p) [e] [] pos) (iEnumT X.K ta) := by
  refine ⟨fun pins s σ H R I h => Call_ (ld_blt I hg hm boot_enumerate (PyProof.Rows.callWith_type1 (thn (ha.run pos pins s σ H _ I h) fun us s1 ⟨vs, H1, I1, r1, q1⟩ => ?_) hs rfl))⟩
  obtain ⟨a, xs, rfl, hq, q⟩ := q1
  cases r1 with
  | cons r rr =>
    cases rr
    cases r
    obtain ⟨its, rv, p', hz⟩ := I1.tuple hq
    refine call_enum1 (begins_tuple a its.toArray) (show s1.heap.IsTuple a its.toArray from p') fun h' he hit hk => wpAny_pyIter_enum he ?_
    refine ⟨s1.heap.objs.size + 1, [s1.heap.objs.size + 1, s1.heap.objs.size], _, _, H1, rfl, I1.kept (t' := s1.toks) hk, turn_enumT a _ _, ⟨⟨.none, he⟩, ⟨_, hit, rfl, rfl⟩, Nat.succ_ne_self _⟩, fun b hb => ?_, q⟩
    have hle : s1.heap.objs.size ≤ b := by
      rcases List.mem_cons.mp hb with z | z
      · rw [z]
        exact Nat.le_add_right _ 1
      · rw [List.mem_singleton.mp z]
        exact Nat.le_refl _
    exact I1.fpOk hle (I1.hok.fresh hle)
theorem walk_enumT {K : PySem.W.Frag} {a : Addr} {xs : List V} : Walk (IteT K a) xs.length (fun H => SqT K H a xs) (YPair (fun i => some (.int (i : Nat))) (fun i => xs[i]?)) :=
  ⟨fun i _ hi q => ⟨xs, xs[i], q, by simp [hi]⟩, fun _ q => ⟨xs, q, Nat.le_refl _⟩, fun i H v H' _ q ⟨T, x, h1, h2, h3, h4⟩ => ⟨T, .int (i : Nat), x, h1, h2, h3, rfl, h4 xs q⟩⟩
end Sz
namespace Sz
open PySem PySem.Spec PyProof.Rows L2
/-! ### ranges of integers of any size -/
theorem turn_long {P : Program} {w : World} {K : PySem.W.Frag} {tg : Expr} (it : Addr) (lo : Int) (n : Nat) :
    Turn P w K tg (Itr lo n) [it] it (fun i h => IsLongIter h it (lo + (i : Nat) * 1) ((n : Int) - (i : Nat)) 1) := by
  have fpit : ∀ {X : Cx} {pins : List (Addr × Obj)} {σ : L2.St} {H : Hp} {s : Shared} {h' : Heap} {tk : Nat}, Inv X pins σ H s → FpOk X pins H it → (∀ b o, b ≠ it → s.heap.get? b = some o → h'.get? b = some o) → Inv X pins σ H { s with heap := h', toks := tk } := fun I f k => by
    obtain ⟨g0, g1, _, g3, g4, g5⟩ := f
    exact I.turned k g0 g1 g3 g4 g5
  constructor
  · exact List.mem_singleton_self it
  · intro i h z b hb
    cases List.mem_singleton.mp hb
    refine ⟨_, z, fun v y => ?_⟩
    have y' : Data.fields _ = Data.cell v := y
    cases y'
  · exact fun i h h' z keep => keep it (List.mem_singleton_self it) _ z
  · intro X e1 e2 e3 calm i pins s σ H E I fp z go
    subst e1 e2 e3
    have wk := Walks.longrange (prog := X.prog) (w := X.w) (I.ok.hd calm) it lo 1 n
    refine wk.item i s _ _ go z ?_
    rintro v h' tk ⟨t, rfl⟩ z' kp
    have J := fpit (tk := tk) I (fp it (List.mem_singleton_self it)) fun b o hb e => kp b o (by simpa using hb) e
    refine ⟨_, rfl, go_of (s := { s with heap := h', toks := tk }) (n := "longrange_iterator") z' rfl rfl (by decide) ?_⟩
    exact ⟨.int (lo + i), H, J, ⟨t, by rw [Int.mul_one]⟩, ⟨rfl, rfl⟩, z', fun b hb => (fp b hb).1⟩
  · intro X e1 e2 e3 calm i pins s σ H E I fp z stop
    subst e1 e2 e3
    refine wpAny_pyNext_long_end (I.ok.hd calm) z (by have : n ≤ i := stop; omega) fun h' eb => ⟨rfl, ?_⟩
    exact fpit (tk := s.toks) I (fp it (List.mem_singleton_self it)) eb
  · exact fun A i s Q E z h => wpAny_pyIter_longiter z h
section
variable {X : Cx} {tg : Expr}
theorem range_any {pins : List (Addr × Obj)} {σ : L2.St} {H : Hp} {s : Shared} {R : It → Hp → Prop} {E : Value → Shared → Prop} {lo hi : Int} {t u v : Tok} {tk : Nat} (I : Inv X pins σ H s)
    (q : R (Itr lo (hi - lo).toNat) H) : wpAny (model X.prog X.w) X.A (pyIter (.ref s.heap.objs.size)) (PIE X pins σ tg R) E { s with heap := s.heap.push { cls := .type "range", data := .fields #[.int lo t, .int hi u, .int 1 v] }, toks := tk } := by
  generalize hr : s.heap.push { cls := .type "range", data := .fields #[.int lo t, .int hi u, .int 1 v] } = hp
  have J : Inv X pins σ H { s with heap := hp, toks := tk } := by
    rw [← hr]
    exact I.kept fun b o e => Heap.get?_push_of_some _ e
  have fresh : ∀ b ∈ [hp.objs.size], FpOk X pins H b := fun b hb => by
    cases List.mem_singleton.mp hb
    exact J.fpOk (Nat.le_refl _) (J.hok.fresh (Nat.le_refl _))
  have ir : IsRange hp s.heap.objs.size lo hi 1 t u v := by
    rw [← hr]
    exact IsRange.new ..
  have x0 : lo + ((0 : Nat) : Int) * 1 = lo := by simp
  have n0 : (((hi - lo).toNat : Nat) : Int) - ((0 : Nat) : Int) = Builtin.Range.rangeSize lo hi 1 := by
    rw [rangeSize_one]
    split <;> omega
  cases sm : Builtin.Range.small lo hi 1 with
  | true =>
    refine wpAny_pyIter_range ir sm ?_
    refine ⟨hp.objs.size, [hp.objs.size], _, _, H, rfl, J.kept (t' := tk) fun b o e => Heap.get?_push_of_some _ e, turn_range _ lo (hi - lo).toNat, ?_, fresh, q⟩
    show IsRangeIter _ _ (lo + ((0 : Nat) : Int) * 1) ((((hi - lo).toNat : Nat) : Int) - ((0 : Nat) : Int)) 1
    rw [x0, n0]
    exact Heap.get?_push_size hp rfl
  | false =>
    refine wpAny_pyIter_longrange ir sm ?_
    refine ⟨hp.objs.size, [hp.objs.size], _, _, H, rfl, J.kept (t' := tk) fun b o e => Heap.get?_push_of_some _ e, turn_long _ lo (hi - lo).toNat, ?_, fresh, q⟩
    show IsLongIter _ _ (lo + ((0 : Nat) : Int) * 1) ((((hi - lo).toNat : Nat) : Int) - ((0 : Nat) : Int)) 1
    rw [x0, n0]
    exact Heap.get?_push_size hp rfl
def iRngA (ta : TA) : TI := fun σ H R => ta σ H fun vs H1 => ∃ i j : Int, vs = [.int i, .int j] ∧ R (Itr i (j - i).toNat) H1
theorem pi_range2A {a b : Expr} {ta : TA} {p pos : Pos} (hg : Gl X "range") (hm : X.mg "range" = none) (ha : PA X [a, b] ta) (s1 : starEach [a, b] X.env = [(false, eval a X.env), (false, eval b X.env)] := by rfl) (s2 : starEach [b] X.env = [(false, eval b X.env)] := by rfl) :
    PI X tg (.Call (.Name "range" p) [a, b] [] pos) (iRngA ta) := by
  constructor
  intro pins s σ H R I h
  refine Call_ (ld_blt I hg hm boot_range (PyProof.Rows.callWith_type1 (thn (ha.run pos pins s σ H _ I h) ?_) (by rw [s1, s2]) (by rw [s2]; rfl)))
  rintro us sA ⟨vs, H1, I1, r1, i, j, rfl, q⟩
  obtain ⟨t, t', rfl⟩ := Vals.int2 r1
  exact call_range_2 (range_any I1 q)
end
end Sz
namespace Sz
open PySem PySem.Spec PyProof.Rows L2
/-! ### list(range(a, b)) of integers of any size -/
section
variable {prog : Program} {w : World} {A : Around} {E : Value → Shared → Prop} {s : Shared}
/-- L.extend(range(a, b)), L empty -/
theorem extend_long {R : Result → Shared → Prop} {r : Addr} {a b : Int} {t u v : Tok} {n : Nat} (calm : A.handled = none) (ir : IsRange s.heap r a b 1 t u v) (big : Builtin.Range.small a b 1 = false) (size : Builtin.Range.rangeSize a b 1 = n) (few : n ≤ 2 ^ 24)
    (L : Addr) (out : Value) (c : Nat) (hL : s.heap.get? L = some { cls := .type "list", data := .seq #[] c })
    (goal : ∀ h' tk its c', (∀ x o, x ≠ L → s.heap.get? x = some o → h'.get? x = some o) → h'.get? L = some { cls := .type "list", dict := none, data := .seq its c', slots := #[] } → ItemsOf (fun i z => ∃ y, z = .int (a + i * 1) y) its n →
      R (.ok (.ret out)) { s with heap := h', toks := tk }) :
    wpAny (model prog w) A.in1 (Builtin.List.listExtendWith (.ref L) (.ref r) out) (fun fin s' => match fin with
      | .done f => R (.ok f) s'
      | .again c' => c'.quiet = true ∧ codeAny (model prog w) A c' R s') (fun e s' => R (.error e) s') s := by
  have ne1 : L ≠ r := by
    rintro rfl
    rw [ir] at hL
    simp at hL
  have ne2 : L ≠ s.heap.objs.size := Nat.ne_of_lt (Heap.lt_size hL)
  have wk := (Walks.longrange (prog := prog) (w := w) (A := A.in1) calm s.heap.objs.size a 1 n).toS
  have loop : ∀ (h : Heap) (c1 tk : Nat), IsLongIter h s.heap.objs.size (a + ((0 : Nat) : Int) * 1) ((n : Int) - ((0 : Nat) : Int)) 1 → (∀ x o, x ≠ L → s.heap.get? x = some o → h.get? x = some o) → h.get? L = some { cls := .type "list", data := .seq #[] c1 } →
      codeAny (model prog w) A (.builtin "list.extend.loop" ⟨[.ref L, .ref s.heap.objs.size, out], []⟩) R { s with heap := h, toks := tk } := fun h c1 tk z kp hl => by
    refine codeAny_extend_loopS wk (by rw [sizeLine_eq]; omega) L (fun m => ne2 (List.mem_singleton.mp m)) out n 0 _ #[] c1 rfl (Nat.zero_le _) z hl (ItemsOf.nil _) ?_
    intro s' its c' mv hl' hi
    rw [Moved.eq_with mv]
    refine goal s'.heap s'.toks its c' (fun x o hx e => mv.heap x o (fun m => ?_) (kp x o hx e)) hl' hi
    cases List.mem_cons.mp m with
    | inl q => exact hx q
    | inr q =>
      have q1 := List.mem_singleton.mp q
      rw [q1] at e
      exact absurd (Heap.lt_size e) (Nat.lt_irrefl _)
  unfold Builtin.List.listExtendWith
  refine wpAny_bind (wpAny_typeOf (T := "range") ⟨_, ir, rfl⟩ ?_)
  have f1 : Builtin.List.listSameRef (.ref L) (.ref r) = false := by
    simp [Builtin.List.listSameRef, ne1]
  have f2 : (Value.type "range" == Value.type "list") = false := by decide
  have f3 : (Value.type "range" == Value.type "tuple") = false := by decide
  simp only [f1, f2, f3, Bool.or_false, Bool.false_eq_true, if_false]
  refine wpAny_bind (wpAny_pyIter_longrange ir big (wpAny_bind (wpAny_holding (wpAny_hint_range (n := n) (Heap.get?_push_of_some _ ir) size few ?_))))
  generalize hg : s.heap.push { cls := .type "longrange_iterator", data := .fields #[rawInt a, rawInt (Builtin.Range.rangeSize a b 1), rawInt 1] } = g
  have gi : IsLongIter g s.heap.objs.size (a + ((0 : Nat) : Int) * 1) ((n : Int) - ((0 : Nat) : Int)) 1 := by
    have x0 : a + ((0 : Nat) : Int) * 1 = a := by simp
    have x1 : (n : Int) - ((0 : Nat) : Int) = Builtin.Range.rangeSize a b 1 := by rw [size]; simp
    rw [x0, x1, ← hg]
    exact Heap.get?_push_size _ rfl
  have gk : ∀ x o, s.heap.get? x = some o → g.get? x = some o := fun x o e => by
    rw [← hg]
    exact Heap.get?_push_of_some _ e
  have gL := gk L _ hL
  refine wpAny_ite_split (fun _ => ?_) fun _ => wpAny_pure ⟨plainId_quiet F.plain_extend_loop _, loop _ c _ gi (fun x o _ e => gk x o e) gL⟩
  refine wpAny_bind (wpAny_rule (wpAny_bind ?_))
  show wpAny _ _ (updateSeq L (·.push .none) >>= fun _ => updateSeq L (·.pop)) _ _ _
  refine wpAny_bind (wpAny_updateSeq gL rfl ?_)
  have m1 := Heap.get?_update_self (Obj.mapSeq (·.push Value.none)) gL rfl
  refine wpAny_updateSeq (hz := by seq_fits) m1 rfl (wpAny_pure ⟨plainId_quiet F.plain_extend_loop _, loop _ _ _ ?_ (fun x o hx e => ?_) (Heap.get?_update_self (Obj.mapSeq (·.pop)) m1 rfl)⟩)
  · exact (Heap.get?_update_other _ _ ne2).trans ((Heap.get?_update_other _ _ ne2).trans gi)
  · exact (Heap.get?_update_other _ _ (Ne.symm hx)).trans ((Heap.get?_update_other _ _ (Ne.symm hx)).trans (gk x o e))
theorem call_list_long {Q : Value → Shared → Prop} {r : Addr} {a b : Int} {t u v : Tok} {n : Nat} (calm : A.handled = none) (ir : IsRange s.heap r a b 1 t u v) (big : Builtin.Range.small a b 1 = false) (size : Builtin.Range.rangeSize a b 1 = n) (few : n ≤ 2 ^ 24)
    (goal : ∀ h' tk its c', (∀ x o, s.heap.get? x = some o → h'.get? x = some o) → h'.get? s.heap.objs.size = some { cls := .type "list", dict := none, data := .seq its c', slots := #[] } → ItemsOf (fun i z => ∃ y, z = .int (a + i * 1) y) its n →
      Q (.ref s.heap.objs.size) { s with heap := h', toks := tk }) : wpAny (model prog w) A (call (.type "list") [.ref r]) Q E s := by
  refine callType_codes (Q₁ := fun obj s1 => obj = .ref s.heap.objs.size ∧ s1 = { s with heap := s.heap.push { cls := .type "list", data := .seq #[] } }) F.called_list (F.typeCall_list_1 _) F.entry_list_init (code_list_new _ ⟨rfl, rfl⟩) ?_
  rintro _ _ ⟨rfl, rfl⟩
  generalize hg : s.heap.push { cls := .type "list", data := .seq #[] } = g
  have gk : ∀ x o, s.heap.get? x = some o → g.get? x = some o := fun x o e => by
    rw [← hg]
    exact Heap.get?_push_of_some _ e
  have gL : g.get? s.heap.objs.size = some { cls := .type "list", data := .seq #[] } := by
    rw [← hg]
    exact Heap.get?_push_size _ rfl
  have lt : ∀ x o, s.heap.get? x = some o → x ≠ s.heap.objs.size := fun x o e => Nat.ne_of_lt (Heap.lt_size e)
  generalize hS : s.heap.objs.size = L at gL goal lt
  have nr : r ≠ L := lt r _ ir
  refine ⟨⟨_, gL, rfl⟩, F.args_list_init_2 _ _, ?_⟩
  show wpAny _ _ (do let old ← Builtin.List.listItems (.ref L); Builtin.List.listUpdate (.ref L) (fun _ => #[]); letGo old.toList.reverse; Builtin.List.listExtendWith (.ref L) (.ref r) .none) _ _ _
  unfold Builtin.List.listItems
  refine wpAny_bind (wpAny_bind (wpAny_seqItems gL rfl (wpAny_pure ?_)))
  show wpAny _ _ (updateSeq L (fun _ => #[]) >>= fun _ => letGo (#[] : Array Value).toList.reverse >>= fun _ => Builtin.List.listExtendWith (.ref L) (.ref r) .none) _ _ _
  refine wpAny_bind (wpAny_updateSeq gL rfl (wpAny_bind (wpAny_letGo ?_)))
  have ot : ∀ x o, x ≠ L → g.get? x = some o → (g.update L (Obj.mapSeq (fun _ => (#[] : Array Value)))).get? x = some o := fun x o hx e => (Heap.get?_update_other _ _ (Ne.symm hx)).trans e
  refine extend_long (A := A.in1) calm (ot r _ nr (gk r _ ir)) big size few L .none _ (Heap.get?_update_self (Obj.mapSeq (fun _ => (#[] : Array Value))) gL rfl) fun h' tk its c' kp hl' hi => ?_
  exact ⟨rfl, goal h' tk its c' (fun x o e => kp x o (lt x o e) (ot x o (lt x o e) (gk x o e))) hl' hi⟩
end
section
variable {X : Cx} {e : Expr} {te : L2.St → Hp → (Int → Int → Hp → Prop) → Prop}
def tLstA (te : L2.St → Hp → (Int → Int → Hp → Prop) → Prop) : TE := fun σ H Q => te σ H fun a b H1 => (b - a).toNat ≤ 1000000 ∧ ∀ q, H1 q = none → Q (.ref q) (upd H1 q (.lst (rgV a b)))
/-- list(range(..)) -/
theorem pe_listA {p pos : Pos} (hc : X.calm = true) (hg : Gl X "list") (hm : X.mg "list" = none) (he : PRg X e te) (na : starEach [e] X.env = (false, eval e X.env) :: starEach [] X.env := by rfl) : PE X (.Call (.Name "list" p) [e] [] pos) (tLstA te) := by
  constructor
  intro pins s σ H Q I h
  refine Call_ (ld_blt I hg hm boot_list (PyProof.Rows.callWith_type1 (args_cons (thn (he pins s σ H _ I h) ?_) na) na))
  rintro _ s1 ⟨r, a, b, t, u, v, H1, rfl, ir, J, few, q⟩
  refine args_nil ?_
  have few2 : (b - a).toNat ≤ 2 ^ 24 := Nat.le_trans few (by decide)
  have fin : ∀ h' tk its c', (∀ x o, s1.heap.get? x = some o → h'.get? x = some o) → h'.get? s1.heap.objs.size = some { cls := .type "list", dict := none, data := .seq its c', slots := #[] } → ItemsOf (fun i z => ∃ y, z = .int (a + i * 1) y) its (b - a).toNat →
      EP X pins σ Q (.ref s1.heap.objs.size) { s1 with heap := h', toks := tk } := fun h' tk its c' kp at_ hi => by
    refine ⟨.ref s1.heap.objs.size, upd H1 s1.heap.objs.size (.lst (rgV a b)), J.laid kp (Nat.le_refl _) ?_, rfl, q _ (J.hok.fresh (Nat.le_refl _))⟩
    refine (show ObjOk X.prog X.w _ _ _ (.lst (rgV a b)) from ⟨?_, its.toList, c', vals_rg hi, ?_⟩)
    · rw [rgV_length, sizeLine_eq]
      omega
    · rw [Array.toArray_toList]
      exact at_
  cases sm : Builtin.Range.small a b 1 with
  | true => exact call_list_range (J.ok.hd hc) ir sm (rangeSize_nat a b) few2 fin
  | false => exact call_list_long (J.ok.hd hc) ir sm (rangeSize_nat a b) few2 fin
end
end Sz
/-! x + y by an own __add__ -/
namespace Sz
open PySem PySem.Spec PyProof.Rows L2
/-- what the two classes must have: C its own def, D none, both stand under object alone -/
structure AddK (K : PySem.W.Frag) (C D f : Addr) : Prop where
  ne : C ≠ D
  c1 : ∃ cd, PySem.W.clsIn K C = some cd ∧ cd.mro = [.ref C, .type "object"]
  c2 : ∃ cd, PySem.W.clsIn K D = some cd ∧ cd.mro = [.ref D, .type "object"]
  at_ : PySem.W.findIn K (.ref C) "__add__" = some (some (.ref f))
  fn : PySem.W.isFn K (.ref f) = true
  n1 : PySem.W.findIn K (.ref D) "__add__" = some none
  n2 : PySem.W.findIn K (.ref D) "__radd__" = some none
def mroB (K : PySem.W.Frag) (C : Addr) : Bool := match PySem.W.clsIn K C with
  | some cd => decide (cd.mro = [.ref C, .type "object"])
  | none => false
def addB (K : PySem.W.Frag) (C D : Str) : Bool := decide (He.ga K C ≠ He.ga K D) && (mroB K (He.ga K C) && (mroB K (He.ga K D) && (He.eqO (PySem.W.findIn K (.ref (He.ga K C)) "__add__") (some (some (.ref (He.ma K (He.ga K C) "__add__")))) &&
  (PySem.W.isFn K (.ref (He.ma K (He.ga K C) "__add__")) && (He.eqO (PySem.W.findIn K (.ref (He.ga K D)) "__add__") (some none) && He.eqO (PySem.W.findIn K (.ref (He.ga K D)) "__radd__") (some none))))))
theorem mroB_ok {K : PySem.W.Frag} {C : Addr} (h : mroB K C = true) : ∃ cd, PySem.W.clsIn K C = some cd ∧ cd.mro = [.ref C, .type "object"] := by
  unfold mroB at h
  cases e : PySem.W.clsIn K C with
  | none =>
    rw [e] at h
    cases h
  | some cd =>
    rw [e] at h
    exact ⟨cd, rfl, of_decide_eq_true h⟩
theorem addB_ok {K : PySem.W.Frag} {C D : Str} (h : addB K C D = true) : AddK K (He.ga K C) (He.ga K D) (He.ma K (He.ga K C) "__add__") := by
  obtain ⟨h1, h⟩ := He.ba h
  obtain ⟨h2, h⟩ := He.ba h
  obtain ⟨h3, h⟩ := He.ba h
  obtain ⟨h4, h⟩ := He.ba h
  obtain ⟨h5, h⟩ := He.ba h
  obtain ⟨h6, h7⟩ := He.ba h
  exact ⟨of_decide_eq_true h1, mroB_ok h2, mroB_ok h3, He.eqO_ok h4, h5, He.eqO_ok h6, He.eqO_ok h7⟩
section
variable {K : PySem.W.Frag} {M : Model} {h : Heap} {C D f : Addr}
theorem fills_own (X : K.In h) (a : AddK K C D f) : PySem.W.Looks M h (fillsNumberSlot (.ref C) "add") true := by
  obtain ⟨cd, e1, e2⟩ := a.c1
  have L1 : PySem.W.Looks M h (mroOf (.ref C)) cd.mro := (PySem.W.looks_clsIn X e1).andThen .now
  have L2 : PySem.W.Looks M h (typeLookup (.ref C) "__add__") (some (.ref f)) := PySem.W.looks_findIn X a.at_
  unfold fillsNumberSlot
  refine PySem.W.Looks.andThen L1 ?_
  rw [e2]
  simp only [List.anyM]
  refine PySem.W.Looks.andThen (a := true) ?_ .now
  refine PySem.W.Looks.andThen (a := true) (PySem.W.Looks.andThen L2 ?_) .now
  exact .now
theorem fills_none (X : K.In h) (a : AddK K C D f) : PySem.W.Looks M h (fillsNumberSlot (.ref D) "add") false := by
  obtain ⟨cd, e1, e2⟩ := a.c2
  have L1 : PySem.W.Looks M h (mroOf (.ref D)) cd.mro := (PySem.W.looks_clsIn X e1).andThen .now
  have L2 : PySem.W.Looks M h (typeLookup (.ref D) "__add__") none := PySem.W.looks_findIn X a.n1
  have L3 : PySem.W.Looks M h (typeLookup (.ref D) "__radd__") none := PySem.W.looks_findIn X a.n2
  have L4 : PySem.W.Looks M h (typeLookup (.type "object") "__add__") none := .of_pure (by rw [typeLookup_type, builtinLookup_eq_fast]; kernel_rfl)
  have L5 : PySem.W.Looks M h (typeLookup (.type "object") "__radd__") none := .of_pure (by rw [typeLookup_type, builtinLookup_eq_fast]; kernel_rfl)
  unfold fillsNumberSlot
  refine PySem.W.Looks.andThen L1 ?_
  rw [e2]
  simp only [List.anyM]
  refine PySem.W.Looks.andThen (a := false) ?_ ?_
  · refine PySem.W.Looks.andThen (a := false) (PySem.W.Looks.andThen L2 .now) ?_
    exact PySem.W.Looks.andThen (a := false) (PySem.W.Looks.andThen L3 .now) .now
  · refine PySem.W.Looks.andThen (a := false) ?_ .now
    exact PySem.W.Looks.andThen L4 (PySem.W.Looks.andThen L5 .now)
end
section
variable {X : Cx} {CX : CXT} {k : Nat} {C D : Str} {ps : List Str} {sp : Sp} {E : XK}
/-- x + y: x an instance of C with its own __add__, y one of D with none -/
theorem op_addO (a : AddK X.K (He.ga X.K C) (He.ga X.K D) (He.ma X.K (He.ga X.K C) "__add__")) (G : PromM X.prog X.w X.K X.mg X.base CX k C "__add__" ps sp) (hr : Room k X.A) (hx : Passes CX X E) :
    OpR X (binaryOp .Add) (fun x y H Q => ∃ p q dx fs dy gs, x = .ref p ∧ y = .ref q ∧ H p = some (.ins (He.ga X.K C) dx fs) ∧ H q = some (.ins (He.ga X.K D) dy gs) ∧ sp [.ref p, .ref q] H Q E) := by
  intro pins s σ H x y v u Q I rx ry h
  obtain ⟨p, q, dx, fs, dy, gs, rfl, rfl, hp, hq, h⟩ := h
  obtain rfl : v = Value.ref p := rx
  obtain rfl : u = Value.ref q := ry
  obtain ⟨m1, O1, _⟩ := ins_get I.hok hp
  obtain ⟨od1, J1, _⟩ := O1.look
  obtain ⟨m2, O2, _⟩ := ins_get I.hok hq
  obtain ⟨od2, J2, _⟩ := O2.look
  obtain ⟨fd, F, b⟩ := G.ex
  have ne : (Value.ref (He.ga X.K C) == Value.ref (He.ga X.K D)) = false := by
    rw [beq_eq_false_iff_ne]
    exact fun z => a.ne (by injection z)
  unfold binaryOp
  refine wpAny_holding ?_
  show wpAny _ _ (binaryOp1 "add" (.ref p) (.ref q) >>= _) _ _ s
  refine wpAny_bind ?_
  unfold binaryOp1
  refine wpAny_bind (J1.type.here (wpAny_bind (J2.type.here (wpAny_bind ((fills_own I.kIn a).here ?_)))))
  rw [ne]
  refine wpAny_bind ((fills_none I.kIn a).here ?_)
  simp only [Bool.and_false, Bool.false_and, Bool.false_eq_true, if_false, if_true]
  refine wpAny_bind (wpAny_pure ?_)
  simp only [Bool.false_eq_true, if_false]
  unfold tryMethod callSpecial? specialOf
  refine wpAny_bind (wpAny_bind (wpAny_bind (wpAny_bind (J1.type.here ((PySem.W.looks_findIn I.kIn a.at_).here ?_)))))
  refine wpAny_holding (wpAny_bind ((PySem.W.bind_fn I.kIn (.ref p) (beq_iff_eq.mp a.fn)).here ?_))
  refine wpAny_bind (thn (run_fn (us := [.ref p, .ref q]) (vs := [.ref p, .ref q]) F hr b .nil hx I (.cons rfl (.cons rfl .nil)) h) fun v s' hv => wpAny_pure ?_)
  have fin : wpAny (model X.prog X.w) X.A (pure (some v) : Sem (Option Value)) (fun r s2 => wpAny (model X.prog X.w) X.A (match r with
      | some v => pure v
      | _ => do
        let ty ← typeOf (Value.ref p)
        let sl ← seqSlot? ty (Str.ofString "__add__")
        match sl with
          | some f => do
            rule "binop.sequence-concat"
            call f [Value.ref p, Value.ref q]
          | _ => binopTypeError "+" (Value.ref p) (Value.ref q)) (EP X pins σ Q) X.xe s2) X.xe s' := wpAny_pure (wpAny_pure hv)
  obtain ⟨x, H', I', r, q'⟩ := hv
  cases x with
  | non => cases (show v = Value.none from r); exact wpAny_pure fin
  | bl c => cases (show v = Value.bool c from r); exact wpAny_pure fin
  | int i => obtain ⟨t, rfl⟩ := (show ∃ t, v = Value.int i t from r); exact wpAny_pure fin
  | str i => obtain ⟨t, rfl⟩ := (show ∃ t, v = Value.str i t from r); exact wpAny_pure fin
  | byt i => obtain ⟨t, rfl⟩ := (show ∃ t, v = Value.bytes i t from r); exact wpAny_pure fin
  | flt i => obtain ⟨t, rfl⟩ := (show ∃ t, v = Value.float i t from r); exact wpAny_pure fin
  | ref a => cases (show v = Value.ref a from r); exact wpAny_pure fin
  | ty n => cases (show v = Value.type n from r); exact wpAny_pure fin
end
end Sz
/-! texts: what is joined, and its repr -/
namespace Sz
open PySem PySem.Spec PyProof.Rows L2
def Signs (x : Str) : Prop := ∀ c ∈ x.cps.toList, c < 16 ^ 8
theorem signs_of (s : String) : Signs (Str.ofString s) := fun c hc => by
  rw [Str.ofString_eq_toList] at hc
  have hc : c ∈ s.toList.map Char.toNat := by simpa using hc
  obtain ⟨d, _, rfl⟩ := List.mem_map.mp hc
  have h := d.valid
  have h2 : d.toNat < 1114112 := by
    rcases h with h | h
    · exact Nat.lt_trans h (by decide)
    · exact h.2
  exact Nat.lt_of_lt_of_le h2 (by decide)
theorem joinL_mem {sep : List Nat} {c : Nat} : ∀ {l : List (List Nat)}, c ∈ TL.joinL sep l → c ∈ sep ∨ ∃ y ∈ l, c ∈ y
  | [], h => by simp [TL.joinL] at h
  | [p], h => .inr ⟨p, by simp, h⟩
  | p :: q :: r, h => by
    rcases List.mem_append.mp (show c ∈ p ++ (sep ++ TL.joinL sep (q :: r)) from h) with h | h
    · exact .inr ⟨p, by simp, h⟩
    · rcases List.mem_append.mp h with h | h
      · exact .inl h
      · rcases joinL_mem h with h | ⟨y, hy, hc⟩
        · exact .inl h
        · exact .inr ⟨y, List.mem_cons_of_mem _ hy, hc⟩
theorem joinL_len {sep : List Nat} : ∀ {l : List (List Nat)}, (TL.joinL sep l).length ≤ (l.map (·.length)).sum + l.length * sep.length
  | [] => by simp [TL.joinL]
  | [p] => by simp [TL.joinL]
  | p :: q :: r => by
    have ih := joinL_len (sep := sep) (l := q :: r)
    show (p ++ (sep ++ TL.joinL sep (q :: r))).length ≤ _
    rw [List.length_append, List.length_append]
    simp only [List.map_cons, List.sum_cons, List.length_cons, Nat.add_mul, Nat.one_mul] at ih ⊢
    omega
theorem join_signs {sep : Str} {ys : List Str} (h : Signs sep) (h2 : ∀ y ∈ ys, Signs y) : Signs (Txt.join sep ys) := fun c hc => by
  rw [TL.join_eq] at hc
  have hc : c ∈ TL.tl (Str.join sep ys) := hc
  rw [TL.tl_join] at hc
  rcases joinL_mem hc with z | ⟨y, hy, z⟩
  · exact h c z
  · obtain ⟨y', hy', rfl⟩ := List.mem_map.mp hy
    exact h2 y' hy' c z
theorem join_len {sep : Str} {ys : List Str} : (Txt.join sep ys).length ≤ (ys.map (·.length)).sum + ys.length * sep.length := by
  have e : ∀ x : Str, x.length = (TL.tl x).length := fun x => by
    show x.cps.size = x.cps.toList.length
    simp
  rw [TL.join_eq, e, TL.tl_join]
  have := joinL_len (sep := TL.tl sep) (l := ys.map TL.tl)
  rw [List.map_map, List.length_map] at this
  have e2 : ys.map ((·.length) ∘ TL.tl) = ys.map (·.length) := by
    apply List.map_congr_left
    intro y _
    exact (e y).symm
  rw [e2] at this
  rw [e sep]
  exact this
theorem repr_fits {x : Str} (h : Signs x) (hl : x.length ≤ 100000) : (reprText x).length ≤ sizeLine := by
  have := PySem.StrLaws.reprText_len x h
  rw [sizeLine_eq]
  omega
/-- repr of a text -/
theorem cr_reprS {X : Cx} : CallR X (.builtin "repr") (fun xs H Q => ∃ y : Str, xs = [.str y] ∧ (reprText y).length ≤ sizeLine ∧ Q (.str (reprText y)) H) := by
  intro pins s σ H xs us Q I r h
  obtain ⟨y, rfl, hz, q⟩ := h
  obtain ⟨u, rfl, ru⟩ := vals1 r
  obtain ⟨t, rfl⟩ := (show ∃ t, u = Value.str y t from ru)
  exact PySem.P.repr_of_str ⟨.str _, H, I.tok _, ⟨_, rfl⟩, q⟩ hz
end Sz
/-! len(x) by an own __len__ -/
namespace Sz
open PySem PySem.Spec PyProof.Rows L2
section
variable {X : Cx} {CX : CXT} {k : Nat} {C : Str} {ps : List Str} {sp : Sp} {E : XK}
theorem cr_lenO (G : PromM X.prog X.w X.K X.mg X.base CX k C "__len__" ps sp) (hr : Room (k + 1) X.A) (hx : Passes CX X E) :
    CallR X (.builtin "len") (fun xs H Q => ∃ p dx fs, xs = [.ref p] ∧ H p = some (.ins (He.ga X.K C) dx fs) ∧ sp [.ref p] H (fun v H' => ∃ n : Int, v = .int n ∧ 0 ≤ n ∧ n < 2 ^ 63 ∧ Q (.int n) H') E) := by
  intro pins s σ H xs us Q I r h
  obtain ⟨p, dx, fs, rfl, hp, h⟩ := h
  obtain ⟨u, rfl, ru⟩ := vals1 r
  obtain rfl : u = Value.ref p := ru
  obtain ⟨m1, O1, _⟩ := ins_get I.hok hp
  obtain ⟨od1, J1, _⟩ := O1.look
  obtain ⟨fd, F, b⟩ := G.ex
  have hl : ([Value.ref p] ++ ([] : List Value)).length = ps.length := by
    have := F.len _ _ _ _ h
    simpa using this
  refine Calls.call_function_entry kind_len plain_len entry_len (args_len1 _) ?_
  unfold Builtin.«len»
  refine wpAny_bind (m := oneArg "len" _) (wpAny_pure ?_)
  refine wpAny_bind (m := callSpecial? (.ref p) (Str.ofString "__len__")) ?_
  unfold callSpecial? specialOf
  refine wpAny_bind (wpAny_bind (J1.type.here ((PySem.W.looks_findIn I.kIn G.me.at_).here ?_)))
  refine wpAny_holding (wpAny_bind ((PySem.W.bind_fn I.kIn (.ref p) (beq_iff_eq.mp G.me.fn)).here (wpAny_bind ?_)))
  have vv : Vals [V.ref p] [Value.ref p] := .cons rfl .nil
  have bb : BindsTo s fd ⟨[Value.ref p], []⟩ (ps.zip [Value.ref p]) := b s [Value.ref p] I.kIn hl
  refine wpAny_call (codeAny_mono (F.run X.A.in1 X.stack s H ⟨[Value.ref p], []⟩ [Value.ref p] [V.ref p] _ E hr.in1 I.env0.in1 bb vv h) fun rr s' hq => ?_)
  cases rr with
  | error e => exact hx pins σ H s e s' I hq
  | ok fl =>
    cases fl with
    | ret v =>
      obtain ⟨v', H', I', rv, n, rfl, n0, n1, q⟩ := I.after hq
      obtain ⟨t, rfl⟩ := (show ∃ t, v = Value.int n t from rv)
      refine wpAny_pure ?_
      refine wpAny_bind (wpAny_holding (wpAny_pure ?_))
      refine wpAny_bind (wpAny_letGo ?_)
      show wpAny _ _ (if n < 0 then _ else _) _ _ _
      rw [if_neg (by omega)]
      show wpAny _ _ (if n ≥ 2 ^ 63 then _ else _) _ _ _
      rw [if_neg (by omega)]
      exact wpAny_bind (wpAny_mkInt (wpAny_pure ⟨_, rfl, .int n, H', I'.tok _, ⟨_, rfl⟩, q⟩))
    | next => exact False.elim hq
    | brk => exact False.elim hq
    | cont => exact False.elim hq
end
end Sz
namespace Sz
/-! ### sizes rise with the length -/
theorem totF_lt {b n m : Int} (hb : 2 ≤ b) (hn : 0 ≤ n) (h : n < m) : totF b n < totF b m := by
  have s := (totF_is hb hn).tot
  have t := (totF_is (b := b) (n := m) hb (by omega)).tot
  by_cases c : totF b n < totF b m
  · exact c
  · have l := fig_lip hb (show totF b m ≤ totF b n by omega) t s
    omega
theorem totF_mono {b n m : Int} (hb : 2 ≤ b) (hn : 0 ≤ n) (h : n ≤ m) : totF b n ≤ totF b m := by
  by_cases c : n = m
  · rw [c]
    exact Int.le_refl _
  · exact Int.le_of_lt (totF_lt hb hn (by omega))
theorem beg_mono {n k m : Int} (hm : 1 ≤ m) (h : n ≤ k) : beg n m ≤ beg k m := Int.ediv_le_ediv (by omega) (by omega)
/-- n = m q + r -/
theorem beg_parts {n m : Int} (hm : 1 ≤ m) : beg n m = n / m + (if 0 < n % m then 1 else 0) := by
  unfold beg
  have e := Int.mul_ediv_add_emod n m
  have r0 := Int.emod_nonneg n (show m ≠ 0 by omega)
  have r1 := Int.emod_lt_of_pos n (show 0 < m by omega)
  split
  · have e2 : n + m - 1 = (n % m - 1) + m * (n / m + 1) := by rw [Int.mul_add, Int.mul_one]; omega
    rw [e2, Int.add_mul_ediv_left _ _ (by omega), Int.ediv_eq_zero_of_lt (by omega) (by omega)]
    omega
  · have e2 : n + m - 1 = (m - 1) + m * (n / m) := by omega
    rw [e2, Int.add_mul_ediv_left _ _ (by omega), Int.ediv_eq_zero_of_lt (by omega) (by omega)]
    omega
theorem pieces_step {b m c n : Int} (hb : 2 ≤ b) (h : (Wr.pieces m c).ok) (hn : 0 ≤ n) : (Wr.pieces m c).gr b n ≤ (Wr.pieces m c).gr b (n + 1) := by
  simp only [Wr.ok] at h
  simp only [Wr.gr]
  have r0 := Int.emod_nonneg n (show m ≠ 0 by omega)
  have r1 := Int.emod_lt_of_pos n (show 0 < m by omega)
  have e := Int.mul_ediv_add_emod n m
  by_cases z : n % m + 1 < m
  · have d : (n + 1) / m = n / m := by
      have e2 : n + 1 = (n % m + 1) + m * (n / m) := by omega
      rw [e2, Int.add_mul_ediv_left _ _ (by omega), Int.ediv_eq_zero_of_lt (by omega) z]
      have e3 : ((n % m + 1) + m * (n / m)) = n + 1 := by omega
      omega
    have r : (n + 1) % m = n % m + 1 := by
      have e3 := Int.mul_ediv_add_emod (n + 1) m
      rw [d] at e3
      omega
    rw [d, r, if_pos (show 0 < n % m + 1 by omega)]
    have f0 := figF_pos (b := b) (n := n % m + 1) hb
    have f1 := figF_mono (b := b) (n := n % m) (m := n % m + 1) hb (by omega)
    split <;> omega
  · have rm : n % m = m - 1 := by omega
    have e2 : n + 1 = 0 + m * (n / m + 1) := by rw [Int.mul_add, Int.mul_one]; omega
    have d : (n + 1) / m = n / m + 1 := by
      rw [e2, Int.add_mul_ediv_left _ _ (by omega), Int.zero_ediv]
      omega
    have r : (n + 1) % m = 0 := by
      have e3 := Int.mul_ediv_add_emod (n + 1) m
      rw [d, Int.mul_add, Int.mul_one] at e3
      omega
    rw [d, r, rm, if_neg (show ¬ (0 : Int) < 0 by omega), Int.add_mul, Int.one_mul]
    have f0 := figF_pos (b := b) (n := m) hb
    have f1 := figF_mono (b := b) (n := m - 1) (m := m) hb (by omega)
    split <;> omega
theorem step_le {f : Int → Int} (h : ∀ n, 0 ≤ n → f n ≤ f (n + 1)) {n : Int} (hn : 0 ≤ n) : ∀ k : Nat, f n ≤ f (n + k)
  | 0 => by simp
  | k + 1 => by
    have ih := step_le h hn k
    have := h (n + k) (by omega)
    have e : n + ((k + 1 : Nat) : Int) = n + k + 1 := by omega
    rw [e]
    omega
theorem gr_mono {b : Int} {a : Wr} (hb : 2 ≤ b) (h : a.ok) {n k : Int} (hn : 0 ≤ n) (hk : n ≤ k) : a.gr b n ≤ a.gr b k := by
  cases a with
  | plus c => simp only [Wr.gr]; omega
  | told c =>
    simp only [Wr.gr]
    have := figF_mono (b := b) hb hk
    omega
  | whole c =>
    simp only [Wr.ok] at h
    exact totF_mono hb (by omega) (by omega)
  | pieces m c =>
    have := step_le (f := (Wr.pieces m c).gr b) (fun n hn => pieces_step hb h hn) hn (k - n).toNat
    have e : n + ((k - n).toNat : Int) = k := by omega
    rw [e] at this
    exact this
  | cut m c =>
    simp only [Wr.ok] at h
    simp only [Wr.gr]
    have := Int.mul_le_mul_of_nonneg_right (beg_mono h.1 hk) (show 0 ≤ c by omega)
    omega
  | coded m c =>
    simp only [Wr.ok] at h
    exact Int.mul_le_mul_of_nonneg_right (beg_mono h.1 hk) (show 0 ≤ c by omega)
  | filled m =>
    simp only [Wr.ok] at h
    exact Int.mul_le_mul_of_nonneg_right (beg_mono h.1 hk) (show 0 ≤ m by omega)
/-- a size is no less than its length -/
theorem gr_ge {b : Int} {a : Wr} (hb : 2 ≤ b) (h : a.ok) {n : Int} (hn : 0 ≤ n) : n ≤ a.gr b n := by
  have bg : ∀ m : Int, 1 ≤ m → n ≤ beg n m * m := fun m hm => by
    have e := Int.mul_ediv_add_emod n m
    have r0 := Int.emod_nonneg n (show m ≠ 0 by omega)
    have r1 := Int.emod_lt_of_pos n (show 0 < m by omega)
    rw [beg_parts hm, Int.add_mul]
    have c := Int.mul_comm m (n / m)
    split
    · rw [Int.one_mul]
      omega
    · rw [Int.zero_mul]
      omega
  cases a with
  | plus c =>
    simp only [Wr.ok] at h
    simp only [Wr.gr]
    omega
  | told c =>
    simp only [Wr.ok] at h
    simp only [Wr.gr]
    have := figF_pos (b := b) (n := n) hb
    omega
  | whole c =>
    simp only [Wr.ok] at h
    simp only [Wr.gr]
    have := isTot_pos (totF_is (b := b) (n := n + c) hb (by omega)).tot
    omega
  | pieces m c =>
    simp only [Wr.ok] at h
    simp only [Wr.gr]
    have e := Int.mul_ediv_add_emod n m
    have r0 := Int.emod_nonneg n (show m ≠ 0 by omega)
    have q0 := Int.ediv_nonneg hn (show 0 ≤ m by omega)
    have f0 := figF_pos (b := b) (n := m) hb
    have f1 := figF_pos (b := b) (n := n % m) hb
    have p := Int.mul_le_mul_of_nonneg_left (show m ≤ m + c + figF b m by omega) q0
    have c := Int.mul_comm m (n / m)
    split <;> omega
  | cut m c =>
    simp only [Wr.ok] at h
    simp only [Wr.gr]
    have := Int.mul_nonneg (beg_le hn h.1).2 (show 0 ≤ c by omega)
    omega
  | coded m c =>
    simp only [Wr.ok] at h
    simp only [Wr.gr]
    have h1 := bg m h.1
    have := Int.mul_le_mul_of_nonneg_left (show m ≤ c by omega) (beg_le hn h.1).2
    omega
  | filled m =>
    simp only [Wr.ok] at h
    exact bg m h.1
end Sz
/-! data that can be shown and compared: how deep, how long the text -/
namespace Sz
open PySem PySem.Spec PyProof.Rows L2
/-- can be shown: at most so deep, at most so long -/
structure Sho (d : PyData) (k m : Nat) : Prop where
  able : d.showable = true
  nod : d.hasDict = false
  deep : d.depth ≤ k
  long : d.shown.length ≤ m
theorem Sho.mono {d : PyData} {k m k' m' : Nat} (h : Sho d k m) (hk : k ≤ k') (hm : m ≤ m') : Sho d k' m' := ⟨h.able, h.nod, Nat.le_trans h.deep hk, Nat.le_trans h.long hm⟩
theorem sho_int {i : Int} (k : Nat) (hk : 0 < k) (hk2 : k ≤ 500) (h : i.natAbs < 10 ^ k) : Sho (.int i) 0 (k + 1) := by
  refine ⟨?_, rfl, Nat.le_refl _, ?_⟩
  · have h2 : i.natAbs < 2 ^ 1800 := Nat.lt_of_lt_of_le h (Nat.le_trans (Nat.pow_le_pow_right (by decide) hk2) (by decide))
    show decide (i.natAbs.log2 < 1920) = true
    exact decide_eq_true (Nat.lt_of_lt_of_le (PySem.Flt.log2_lt_of (by decide) h2) (by decide))
  · have h1 := int_text_length_le10 hk h
    have e : (Str.ofString (toString i)).length = (toString i : String).length := PySem.ofString_length _
    show (Str.ofString (toString i)).length ≤ k + 1
    omega
theorem sho_bool (b : Bool) : Sho (.bool b) 0 5 := by cases b <;> exact ⟨rfl, rfl, Nat.le_refl _, by decide⟩
theorem sho_none : Sho .none 0 4 := ⟨rfl, rfl, Nat.le_refl _, by decide⟩
theorem sho_all {k m : Nat} : ∀ ds : List PyData, (∀ d ∈ ds, Sho d k m) → PyData.showableAll ds = true ∧ PyData.hasDictAll ds = false ∧ PyData.depthAll ds ≤ k ∧ ((PyData.shownAll ds).map (·.length)).sum ≤ m * ds.length ∧ (PyData.shownAll ds).length = ds.length
  | [], _ => ⟨rfl, rfl, Nat.zero_le _, by simp [PyData.shownAll], rfl⟩
  | d :: ds, h => by
    obtain ⟨h1, h2, h3, h4, h5⟩ := sho_all ds fun y hy => h y (List.mem_cons_of_mem _ hy)
    obtain ⟨g1, g2, g3, g4⟩ := h d (List.mem_cons_self ..)
    refine ⟨?_, ?_, ?_, ?_, ?_⟩
    · show (d.showable && PyData.showableAll ds) = true
      rw [g1, h1]
      rfl
    · show (d.hasDict || PyData.hasDictAll ds) = false
      rw [g2, h2]
      rfl
    · show max d.depth (PyData.depthAll ds) ≤ k
      omega
    · show ((d.shown :: PyData.shownAll ds).map (·.length)).sum ≤ m * (ds.length + 1)
      rw [List.map_cons, List.sum_cons, Nat.mul_add, Nat.mul_one]
      omega
    · show (PyData.shownAll ds).length + 1 = ds.length + 1
      rw [h5]
theorem sho_tuple {k m : Nat} {ds : List PyData} (h : ∀ d ∈ ds, Sho d k m) : Sho (.tuple ds) (k + 1) ((m + 2) * ds.length + 4) := by
  obtain ⟨h1, h2, h3, h4, h5⟩ := sho_all ds h
  refine ⟨h1, h2, ?_, ?_⟩
  · show PyData.depthAll ds + 1 ≤ k + 1
    omega
  · show (tupleText (PyData.shownAll ds)).length ≤ _
    have h6 := tupleText_len_le (PyData.shownAll ds)
    rw [h5] at h6
    rw [Nat.add_mul]
    omega
theorem sho_list {k m : Nat} {ds : List PyData} (h : ∀ d ∈ ds, Sho d k m) : Sho (.list ds) (k + 1) ((m + 2) * ds.length + 4) := by
  obtain ⟨h1, h2, h3, h4, h5⟩ := sho_all ds h
  refine ⟨h1, h2, ?_, ?_⟩
  · show PyData.depthAll ds + 1 ≤ k + 1
    omega
  · show (listText (PyData.shownAll ds)).length ≤ _
    have h6 := listText_len_le (PyData.shownAll ds)
    rw [h5] at h6
    rw [Nat.add_mul]
    omega
/-! what can be laid and compared -/
structure Shp (d : PyData) (k : Nat) : Prop where
  lay : d.canLay0 = true
  deep : d.depth ≤ k
theorem Shp.mono {d : PyData} {k k' : Nat} (h : Shp d k) (hk : k ≤ k') : Shp d k' := ⟨h.lay, Nat.le_trans h.deep hk⟩
theorem Shp.shaped {d : PyData} {k : Nat} (h : Shp d k) (hk : k ≤ 30 := by decide) : SeqAt.shaped d = true := by
  have h2 := h.deep
  simp [SeqAt.shaped, h.lay]
  omega
theorem shp_int (i : Int) : Shp (.int i) 0 := ⟨rfl, Nat.le_refl _⟩
theorem shp_str {s : Str} (h : PyData.strOk s = true) : Shp (.str s) 0 := ⟨h, Nat.le_refl _⟩
theorem shp_bool (b : Bool) : Shp (.bool b) 0 := ⟨rfl, Nat.le_refl _⟩
theorem shp_none : Shp .none 0 := ⟨rfl, Nat.le_refl _⟩
theorem shp_all {k : Nat} : ∀ ds : List PyData, (∀ d ∈ ds, Shp d k) → PyData.canLayAll0 ds = true ∧ PyData.depthAll ds ≤ k
  | [], _ => ⟨rfl, Nat.zero_le _⟩
  | d :: ds, h => by
    obtain ⟨h1, h2⟩ := shp_all ds fun y hy => h y (List.mem_cons_of_mem _ hy)
    obtain ⟨g1, g2⟩ := h d (List.mem_cons_self ..)
    refine ⟨?_, ?_⟩
    · show (d.canLay0 && PyData.canLayAll0 ds) = true
      rw [g1, h1]
      rfl
    · show max d.depth (PyData.depthAll ds) ≤ k
      omega
theorem shp_tuple {k : Nat} {ds : List PyData} (h : ∀ d ∈ ds, Shp d k) : Shp (.tuple ds) (k + 1) := by
  obtain ⟨h1, h2⟩ := shp_all ds h
  refine ⟨h1, ?_⟩
  show PyData.depthAll ds + 1 ≤ k + 1
  omega
theorem shp_list {k : Nat} {ds : List PyData} (h : ∀ d ∈ ds, Shp d k) : Shp (.list ds) (k + 1) := by
  obtain ⟨h1, h2⟩ := shp_all ds h
  refine ⟨h1, ?_⟩
  show PyData.depthAll ds + 1 ≤ k + 1
  omega
theorem shp_ints_t (xs : List Int) : Shp (.tuple (xs.map PyData.int)) 1 := shp_tuple (k := 0) fun d hd => by
  obtain ⟨i, _, rfl⟩ := List.mem_map.mp hd
  exact shp_int i
theorem shp_ints_l (xs : List Int) : Shp (.list (xs.map PyData.int)) 1 := shp_list (k := 0) fun d hd => by
  obtain ⟨i, _, rfl⟩ := List.mem_map.mp hd
  exact shp_int i
end Sz
/-! set comprehensions of ints (the walk is that of HandS.SetBool, turned to ints), sorted(set) of any number -/
namespace Sz
open PySem PySem.Spec PyProof.Rows L2 PpSet
section
variable {X : Cx}
theorem addI_ok {pins : List (Addr × Obj)} {σ : L2.St} {H : Hp} {s : Shared} {E : Value → Shared → Prop} {D : Addr} {S : Int → Bool} {n : Nat} {y : Int} {tk : Tok} {Q : Value → Shared → Prop} (I : Inv X pins σ H s) (hD : H D = some (SetO X.w D S n)) (room : n + 1 < scanBound)
    (h : ∀ s', Inv X pins σ (upd H D (SetO X.w D (fun j => S j || decide (j = y)) (if S y = true then n else n + 1))) s' → Q .none s') : wpAny (model X.prog X.w) X.A (call (.builtin "set.add") [.ref D, .int y tk]) Q E s := by
  have R := setO_get I hD
  refine setR_add R room fun h' sb new => ?_
  have he : ∃ u, h'.get? D = some u := by
    have ⟨o, _, _, _, ho, _⟩ := new
    exact ⟨o, ho⟩
  exact h _ (I.write (e := D) (t' := s.toks + 1) (by rw [hD]; trivial) (.inl rfl) (fun b u hb hu => (sb.2 b hb).trans hu) he (setO_new new))
def tScI (w : World) (wi : TI) (g : TG) (tt : TT) (te : TE) (vs : List Nat) : TE := fun σ H Q => wi σ H fun J H1 => ∀ D, H1 D = none → ∃ W : Nat → Nat → Hp → Prop, (∃ m, W 0 m (upd H1 D (SetO w D (fun _ => false) 0))) ∧ ∀ i m H, W i m H →
  (J.stop i H ∧ Q (.ref D) H) ∨ (J.go i H ∧ ∃ Nx : Hp → Prop, (∀ H', Nx H' → ∃ m', m' < m ∧ W (i + 1) m' H') ∧ ∀ x H', J.yld i H x H' → g x (wipe σ vs) H' fun σ2 H2 => wipe σ2 vs = wipe σ vs ∧ tt σ2 H2 fun b H3 =>
    if b = true then te σ2 H3 fun y H4 => ∃ (c : Int) (S : Int → Bool) (n : Nat), y = .int c ∧ H4 D = some (SetO w D S n) ∧ n + 1 < scanBound ∧ Nx (upd H4 D (SetO w D (fun j => S j || decide (j = c)) (if S c = true then n else n + 1))) else Nx H3)
theorem sc_coreI {pins : List (Addr × Obj)} {s : Shared} {σ : L2.St} {H : Hp} {Q : VK} {elt tg iter : Expr} {ifs : List Expr} {scope : Scope} {own : List (PySem.Str × Nat)} {pos pos' : Pos} {wi : TI} {g : TG} {tt : TT} {te : TE} {use : Option (Value → Sem Unit)} {Qf : Value → Shared → Prop}
    (hc : X.calm = true) (hN : X.N.Nodup) (I : Inv X pins σ H s) (hi : PI X tg iter wi) (ok : BlkOk X.N X.env.scope scope own)
    (hg : ∀ (s : Shared) (H : Hp) (C : Addr) (cl : List (PySem.Str × Addr)) (fp : List Addr), PG (X.blk s H scope (compEnvC scope cl C X.env) fp) tg g) (ht : ∀ (s : Shared) (H : Hp) (C : Addr) (cl : List (PySem.Str × Addr)) (fp : List Addr), PTs (X.blk s H scope (compEnvC scope cl C X.env) fp) ifs tt)
    (he : ∀ (s : Shared) (H : Hp) (C : Addr) (cl : List (PySem.Str × Addr)) (fp : List Addr), PE (X.blk s H scope (compEnvC scope cl C X.env) fp) elt te) (hs : ∀ x, foldedSetIterable iter X.env x = pure x)
    (h : tScI X.w wi g tt te (own.map (·.2)) σ H Q)
    (hRR : ∀ D C s' m H', Inv X pins σ H' s' → Q (.ref D) H' → s'.heap.Ns C m → FpOk X pins H' C → compPost (model X.prog X.w) X.A X.xe use Qf (.ref D) C (.ok .next) s') :
    wpAny (model X.prog X.w) X.A (comprehension (.SetComp elt [⟨tg, iter, ifs, 0⟩] scope pos) scope X.env pos' (newSet (.type "set")) false (eval iter X.env) use) Qf X.xe s := by
  have hfree : ∀ y ∈ scope.names, y.2 = .free → ∃ c, X.env.cells.lookup y.1 = some c := fun y hy e => by
    rcases ok.free y hy e with k | k
    · exact I.ok.has _ (.inl k)
    · exact I.ok.has _ (.inr k)
  refine wpAny_comprehension_free (use := use) rfl hs (closure_ok hfree) ok.kind (fun y hy e => by rw [ok.uniq y hy, e])
    (thn (hi.run pins s σ H _ I h) fun xv s1 hx => thn hx fun itv s2 h2 => ?_)
  obtain ⟨it, fp, tn, J, H2, e, I2, T, st2, f2, q⟩ := h2
  subst e
  refine newSet_ok (newEnv_comp ?_)
  generalize hD : s2.heap.objs.size = D
  have hDn : H2 D = none := I2.hok.fresh (Nat.le_of_eq hD)
  obtain ⟨W, ⟨m0, w0⟩, turn⟩ := q D hDn
  -- the new list
  generalize hs3 : ({ s2 with heap := s2.heap.push { cls := .type "set", dict := none, data := .set #[] 0 (.fresh 0 0 (!X.w.params.followText "set-order")) } } : Shared) = s3
  have I3 : Inv X pins σ (upd H2 D (SetO X.w D (fun _ => false) 0)) s3 := by
    rw [← hs3]
    refine I2.laid (t' := s2.toks) (fun b o e => Heap.get?_push_of_some _ e) (Nat.le_of_eq hD) ?_
    rw [← hD]
    exact setO_new (setR_fresh X.w)
  have h3 : s3.heap = s2.heap.push { cls := .type "set", dict := none, data := .set #[] 0 (.fresh 0 0 (!X.w.params.followText "set-order")) } := by rw [← hs3]
  have sz : ∀ b ∈ fp, b < s2.heap.objs.size := fun b hb => by
    obtain ⟨o, e, _⟩ := T.obj _ _ st2 b hb
    exact Heap.lt_size e
  have f3 : ∀ b ∈ fp, FpOk X pins (upd H2 D (SetO X.w D (fun _ => false) 0)) b ∧ b < s3.heap.objs.size := fun b hb => by
    have hlt := sz b hb
    refine ⟨⟨?_, (f2 b hb).2⟩, by rw [h3, Heap.size_push]; exact Nat.lt_succ_of_lt hlt⟩
    rw [upd_ne (by rw [← hD]; exact Nat.ne_of_lt hlt)]
    exact (f2 b hb).1
  have st3 : tn 0 s3.heap := T.keep _ _ _ st2 fun b _ o e => by rw [h3]; exact Heap.get?_push_of_some _ e
  have I4 := block_start I3 ok hN f3
  have pg := hg s3 (upd H2 D (SetO X.w D (fun _ => false) 0)) s3.heap.objs.size (cellsFrom (s3.heap.objs.size + 1) scope.names (cloFrom X.env.cells scope.names [])) fp
  have pt := ht s3 (upd H2 D (SetO X.w D (fun _ => false) 0)) s3.heap.objs.size (cellsFrom (s3.heap.objs.size + 1) scope.names (cloFrom X.env.cells scope.names [])) fp
  have pe := he s3 (upd H2 D (SetO X.w D (fun _ => false) 0)) s3.heap.objs.size (cellsFrom (s3.heap.objs.size + 1) scope.names (cloFrom X.env.cells scope.names [])) fp
  show codeAny _ _ (.compStart (.SetComp elt [⟨tg, iter, ifs, 0⟩] scope pos) 0 (.ref it) (.ref D) (compEnvC scope (cellsFrom (s3.heap.objs.size + 1) scope.names (cloFrom X.env.cells scope.names [])) s3.heap.objs.size X.env)) (compPost (model X.prog X.w) X.A X.xe use Qf (.ref D) s3.heap.objs.size) { s3 with heap := pushCells (s3.heap.push { cls := .type "dict", data := .dict #[] }) scope.names }
  have nfp : ∀ b ∈ fp, (upd H2 D (SetO X.w D (fun _ => false) 0)) b = none := fun b hb => (f3 b hb).1.1
  generalize hce : compEnvC scope (cellsFrom (s3.heap.objs.size + 1) scope.names (cloFrom X.env.cells scope.names [])) s3.heap.objs.size X.env = ce at I4 pg pt pe ⊢
  have cL : ce.locals = s3.heap.objs.size := by subst hce; rfl
  generalize hH3 : upd H2 D (SetO X.w D (fun _ => false) 0) = H3 at I3 I4 pg pt pe w0 nfp f3
  generalize hs4 : ({ s3 with heap := pushCells (s3.heap.push { cls := .type "dict", data := .dict #[] }) scope.names } : Shared) = s4 at I4 ⊢
  have st4 : tn 0 s4.heap := T.keep _ _ _ st3 fun b _ o e => by rw [← hs4]; exact pushCells_keeps _ _ _ _ (Heap.get?_push_of_some _ e)
  have stat : ∀ {σ' : L2.St} {H' : Hp} {s' : Shared}, Inv (X.blk s3 H3 scope ce fp) [] σ' H' s' → (∀ b ∈ fp, H' b = none) → ∀ b ∈ fp, FpOk (X.blk s3 H3 scope ce fp) [] H' b := fun {σ' H' s'} I' hn b hb =>
    ⟨hn b hb, (I'.ok.exf b hb).1, I'.ok.exfs b hb, .inl hb, fun x c e => (I'.ok.exf b hb).2 x c e, fun p hp => absurd (show p ∈ ([] : List (Addr × Obj)) ++ [] from hp) (by simp)⟩
  have loop : codeAny (model X.prog X.w) X.A (.compLoop (.SetComp elt [⟨tg, iter, ifs, 0⟩] scope pos) 0 (.ref it) (.ref D) ce) (compPost (model X.prog X.w) X.A X.xe use Qf (.ref D) s3.heap.objs.size) s4 := by
    refine compLoopS_any (fun n s' => ∃ i H', Inv (X.blk s3 H3 scope ce fp) [] (wipe σ (own.map (·.2))) H' s' ∧ tn i s'.heap ∧ (∀ b ∈ fp, H' b = none) ∧ W i n H') ?_ m0 ⟨0, H3, I4, st4, nfp, w0⟩
    rintro n s5 ⟨i, H5, I5, st5, n5, w5⟩
    rcases turn i n H5 w5 with ⟨stop, qq⟩ | ⟨go, Nx, hNx, step⟩
    · have td := T.done (X.blk s3 H3 scope ce fp) rfl rfl rfl hc i [] s5 _ H5 (fun _ _ => False) I5 (stat I5 n5) st5 stop
      refine thnF td fun r s6 ⟨hr, I6⟩ => ?_
      subst hr
      -- back in the def's context
      have I7 : Inv X pins σ H5 s6 := I3.call' (ch := fp) I6.os I6.base I6.hok I6.bare fun b hb => ⟨(f3 b hb).1.2.2.2.1, (f3 b hb).1.2.1, (f3 b hb).1.2.2.2.2.1, (f3 b hb).1.2.2.2.2.2⟩
      have nC : H5 s3.heap.objs.size = none := by
        have z : H5 ce.locals = none := I6.free
        rw [cL] at z
        exact z
      obtain ⟨m, hn, _⟩ := I6.loc
      have hn : s6.heap.Ns ce.locals m := hn
      rw [cL] at hn
      exact hRR D s3.heap.objs.size s6 m H5 I7 qq hn (I3.fpOk (Nat.le_refl _) nC)
    · have ti := T.item (X.blk s3 H3 scope ce fp) rfl rfl rfl hc i [] s5 _ H5 (fun _ _ => False) I5 (stat I5 n5) st5 go
      refine thnF ti fun r s6 ⟨u, hr, h6⟩ => ?_
      subst hr
      refine thnF h6 fun _ s7 ⟨x, H7, I7, r7, y7, st7, n7⟩ => ?_
      have I7' := I7.pinned (stat I7 n7) (T.obj _ _ st7)
      refine thnF (pg.run _ s7 _ H7 x u _ I7' r7 (step x H7 y7)) fun _ s8 ⟨σ8, H8, I8, hw8, q8⟩ => ?_
      refine thnF (pt.run _ s8 σ8 H8 _ I8 q8) fun b s9 ⟨H9, I9, q9⟩ => ?_
      -- the turn's end
      have fin : ∀ {s' : Shared} {H' : Hp}, Inv (X.blk s3 H3 scope ce fp) ([] ++ pinsAt fp s7.heap) σ8 H' s' → Nx H' → ∃ m, m < n ∧ ∃ i H', Inv (X.blk s3 H3 scope ce fp) [] (wipe σ (own.map (·.2))) H' s' ∧ tn i s'.heap ∧ (∀ b ∈ fp, H' b = none) ∧ W i m H' := fun {s' H'} I' nx => by
        obtain ⟨m', hm, w'⟩ := hNx H' nx
        have pin' : ∀ b ∈ fp, ∀ o, s7.heap.get? b = some o → s'.heap.get? b = some o ∧ H' b = none := fun b hb o e =>
          let z := I'.pin (b, o) (List.mem_append_right _ (List.mem_append_right _ (mem_pinsAt hb e)))
          ⟨z.1, z.2.1⟩
        have hl : (wipe σ (own.map (·.2))).length = σ8.length := by rw [← hw8, wipe_length]
        refine ⟨m', hm, i + 1, H', (I'.unpinned (pins := [])).weak hl (fun j v e => ?_), T.keep _ _ _ st7 fun b hb o e => (pin' b hb o e).1, fun b hb => ?_, w'⟩
        · rw [← hw8] at e
          exact (wipe_some e).1
        · obtain ⟨o, e, _⟩ := T.obj _ _ st7 b hb
          exact (pin' b hb o e).2
      cases b with
      | false =>
        simp only [Bool.false_eq_true, if_false] at q9 ⊢
        exact fin I9 q9
      | true =>
        simp only [if_true] at q9 ⊢
        refine thnF (pe.run _ s9 σ8 H9 _ I9 q9) fun z s10 ⟨yv, H10, I10, r10, cb, S0, n0, ey, hD10, hz10, nx⟩ => ?_
        subst ey
        obtain ⟨tk, rfl⟩ := r10
        exact addI_ok (X := X.blk s3 H3 scope ce fp) I10 hD10 hz10 fun s11 I11 => fin I11 nx
  exact codeAny_compStart_set loop (T.self X.A 0 _ _ _ st4 loop)
/-- as a value -/
theorem pe_scI {elt tg iter : Expr} {ifs : List Expr} {scope : Scope} {own : List (PySem.Str × Nat)} {pos : Pos} {wi : TI} {g : TG} {tt : TT} {te : TE} (hc : X.calm = true) (hN : X.N.Nodup) (hi : PI X tg iter wi) (ok : BlkOk X.N X.env.scope scope own)
    (hg : ∀ (s : Shared) (H : Hp) (C : Addr) (cl : List (PySem.Str × Addr)) (fp : List Addr), PG (X.blk s H scope (compEnvC scope cl C X.env) fp) tg g) (ht : ∀ (s : Shared) (H : Hp) (C : Addr) (cl : List (PySem.Str × Addr)) (fp : List Addr), PTs (X.blk s H scope (compEnvC scope cl C X.env) fp) ifs tt)
    (he : ∀ (s : Shared) (H : Hp) (C : Addr) (cl : List (PySem.Str × Addr)) (fp : List Addr), PE (X.blk s H scope (compEnvC scope cl C X.env) fp) elt te) (hs : ∀ x, foldedSetIterable iter X.env x = pure x := by intro _; rfl) :
    PE X (.SetComp elt [⟨tg, iter, ifs, 0⟩] scope pos) (tScI X.w wi g tt te (own.map (·.2))) := by
  refine ⟨fun pins s σ H Q I h => ?_⟩
  rw [eval_SetComp]
  refine sc_coreI hc hN I hi ok hg ht he hs h fun D C s' m H' I' q hn f => ⟨m, hn, fun h'' sb => ?_⟩
  obtain ⟨f0, f1, f2, f3, f4, f5⟩ := f
  exact ⟨.ref D, H', I'.turned (t' := s'.toks) (fun b o hb e => (sb.2 b hb).trans e) f0 f1 f3 f4 f5, rfl, q⟩
/-- over a list that the block leaves as it is -/
theorem sc_listI {w : World} {K : PySem.W.Frag} {a : Addr} {xs : List V} {g : TG} {tt : TT} {te : TE} {vs : List Nat} {σ : L2.St} {H1 : Hp} {D : Addr} {Qd : Hp → Prop} (Pv : Nat → Hp → Prop) (h0 : Pv 0 (upd H1 D (SetO w D (fun _ => false) 0))) (hl : ∀ i H, i ≤ xs.length → Pv i H → SqL K H a xs)
    (hs : ∀ i x H, xs[i]? = some x → Pv i H → g x (wipe σ vs) H fun σ2 H2 => wipe σ2 vs = wipe σ vs ∧ tt σ2 H2 fun b H3 =>
      if b = true then te σ2 H3 fun y H4 => ∃ (c : Int) (S : Int → Bool) (n : Nat), y = .int c ∧ H4 D = some (SetO w D S n) ∧ n + 1 < scanBound ∧ Pv (i + 1) (upd H4 D (SetO w D (fun j => S j || decide (j = c)) (if S c = true then n else n + 1))) else Pv (i + 1) H3) (hd : ∀ H, Pv xs.length H → Qd H) :
    ∃ W : Nat → Nat → Hp → Prop, (∃ m, W 0 m (upd H1 D (SetO w D (fun _ => false) 0))) ∧ ∀ i m H, W i m H →
      ((Itl K a).stop i H ∧ Qd H) ∨ ((Itl K a).go i H ∧ ∃ Nx : Hp → Prop, (∀ H', Nx H' → ∃ m', m' < m ∧ W (i + 1) m' H') ∧ ∀ x H', (Itl K a).yld i H x H' → g x (wipe σ vs) H' fun σ2 H2 => wipe σ2 vs = wipe σ vs ∧ tt σ2 H2 fun b H3 =>
        if b = true then te σ2 H3 fun y H4 => ∃ (c : Int) (S : Int → Bool) (n : Nat), y = .int c ∧ H4 D = some (SetO w D S n) ∧ n + 1 < scanBound ∧ Nx (upd H4 D (SetO w D (fun j => S j || decide (j = c)) (if S c = true then n else n + 1))) else Nx H3) := by
  refine ⟨fun i m H => m = xs.length - i ∧ i ≤ xs.length ∧ Pv i H, ⟨xs.length, by simp, Nat.zero_le _, h0⟩, ?_⟩
  rintro i m H ⟨rfl, hi, p⟩
  have q := hl i H hi p
  by_cases hlt : i < xs.length
  · refine .inr ⟨⟨xs, xs[i], q, by simp [hlt]⟩, Pv (i + 1), fun H' p' => ⟨xs.length - (i + 1), by omega, rfl, hlt, p'⟩, fun x H' y => ?_⟩
    obtain ⟨e, y⟩ := y
    subst e
    exact hs i x _ (y xs q) p
  · have e : i = xs.length := by omega
    subst e
    exact .inl ⟨⟨xs, q, Nat.le_refl _⟩, hd H p⟩
/-- over a tuple that the block leaves as it is -/
theorem sc_tupI {w : World} {K : PySem.W.Frag} {a : Addr} {xs : List V} {g : TG} {tt : TT} {te : TE} {vs : List Nat} {σ : L2.St} {H1 : Hp} {D : Addr} {Qd : Hp → Prop} (Pv : Nat → Hp → Prop) (h0 : Pv 0 (upd H1 D (SetO w D (fun _ => false) 0))) (hl : ∀ i H, i ≤ xs.length → Pv i H → SqT K H a xs)
    (hs : ∀ i x H, xs[i]? = some x → Pv i H → g x (wipe σ vs) H fun σ2 H2 => wipe σ2 vs = wipe σ vs ∧ tt σ2 H2 fun b H3 =>
      if b = true then te σ2 H3 fun y H4 => ∃ (c : Int) (S : Int → Bool) (n : Nat), y = .int c ∧ H4 D = some (SetO w D S n) ∧ n + 1 < scanBound ∧ Pv (i + 1) (upd H4 D (SetO w D (fun j => S j || decide (j = c)) (if S c = true then n else n + 1))) else Pv (i + 1) H3) (hd : ∀ H, Pv xs.length H → Qd H) :
    ∃ W : Nat → Nat → Hp → Prop, (∃ m, W 0 m (upd H1 D (SetO w D (fun _ => false) 0))) ∧ ∀ i m H, W i m H →
      ((Itt K a).stop i H ∧ Qd H) ∨ ((Itt K a).go i H ∧ ∃ Nx : Hp → Prop, (∀ H', Nx H' → ∃ m', m' < m ∧ W (i + 1) m' H') ∧ ∀ x H', (Itt K a).yld i H x H' → g x (wipe σ vs) H' fun σ2 H2 => wipe σ2 vs = wipe σ vs ∧ tt σ2 H2 fun b H3 =>
        if b = true then te σ2 H3 fun y H4 => ∃ (c : Int) (S : Int → Bool) (n : Nat), y = .int c ∧ H4 D = some (SetO w D S n) ∧ n + 1 < scanBound ∧ Nx (upd H4 D (SetO w D (fun j => S j || decide (j = c)) (if S c = true then n else n + 1))) else Nx H3) := by
  refine ⟨fun i m H => m = xs.length - i ∧ i ≤ xs.length ∧ Pv i H, ⟨xs.length, by simp, Nat.zero_le _, h0⟩, ?_⟩
  rintro i m H ⟨rfl, hi, p⟩
  have q := hl i H hi p
  by_cases hlt : i < xs.length
  · refine .inr ⟨⟨xs, xs[i], q, by simp [hlt]⟩, Pv (i + 1), fun H' p' => ⟨xs.length - (i + 1), by omega, rfl, hlt, p'⟩, fun x H' y => ?_⟩
    obtain ⟨e, y⟩ := y
    subst e
    exact hs i x _ (y xs q) p
  · have e : i = xs.length := by omega
    subst e
    exact .inl ⟨⟨xs, q, Nat.le_refl _⟩, hd H p⟩
/-- sorted(set) -/
theorem sorted_setA {P : Program} {w : World} {A : Around} {E : Value → Shared → Prop} {s : Shared} {a : Addr} {S : Int → Bool} {n : Nat} {Q : Value → Shared → Prop} (R : SetR w s.heap a S n) (hh : A.handled = none)
    (hQ : ∀ s' p (out : List Value) (c : Nat) (ns : List Int), (∀ b o, s.heap.get? b = some o → s'.heap.get? b = some o) → s'.gens = s.gens → s'.os = s.os → s.heap.objs.size ≤ p →
      s'.heap.get? p = some (seqObj "list" out.toArray c) → IntsAre out ns → ns.Pairwise (· < ·) → (∀ k, k ∈ ns ↔ S k = true) → ns.length = n → Q (.ref p) s') :
    wpAny (model P w) A (call (.builtin "sorted") [.ref a]) Q E s := by
  obtain ⟨o, es, ep, t, ho, hex, hd, g, nd, hm, hb, hf, hn, hr, hl⟩ := R
  have hb2 : n < 4096 := by rw [← hn]; exact hb
  refine Calls.call_function_entry kind_sorted plain_sorted entry_sorted (args_sorted1 _) ?_
  unfold Builtin.«sorted»
  refine wpAny_bind (m := checkCount "sorted" 1 1 _) (wpAny_pure ?_)
  refine wpAny_bind (collect_set (A := A.in1) hh ⟨o, ho, hex.1, hd⟩ hf hb hr hl fun s1 vs k1 hz g1 o1 pm => ?_)
  have hvl : vs.length = n := by rw [pm.length_eq, List.length_map, Array.length_toList]; exact hn
  have hI : IntsAre vs (vs.map Builtin.Re.reRawOf) := ints_of vs fun v hv => by
    obtain ⟨e, he, q⟩ := List.mem_map.mp (pm.mem_iff.mp hv)
    obtain ⟨k, tk, h1, _⟩ := g e he
    exact ⟨k, tk, by rw [← q]; exact h1⟩
  have pk : (vs.map Builtin.Re.reRawOf).Perm (es.toList.map keyOf) := by
    have q := pm.map Builtin.Re.reRawOf
    rw [List.map_map] at q
    exact q
  have hvz : vs.length ≤ sizeLine := by rw [hvl, sizeLine_eq]; omega
  refine wpAny_bind (wpAny_newList ?_ hvz)
  have hoL : (s1.heap.push (seqObj "list" vs.toArray 0)).get? s1.heap.objs.size = some (seqObj "list" vs.toArray 0) := Heap.get?_push_size _ rfl
  refine wpAny_bind (wpAny_holding (wpAny_call_entry slot_list_sort ⟨_, hoL, rfl⟩ entry_list_sort (SrtO.list_sort_ord SrtO.swo_int hoL hvz (fun h2 => SrtO.ints_sortable hI h2) fun out h1 h2 => ⟨_, rfl, ?_⟩) (args_list_sort _)))
  obtain ⟨a1, a2, a3⟩ := SrtO.ints_out hI h1 h2
  obtain ⟨c, hc⟩ := sortedHeap_at (vs := vs) (out := out.toArray) hoL
  have pn : (out.map SrtO.iv).Perm (es.toList.map keyOf) := a2.trans pk
  refine wpAny_pure ⟨_, rfl, hQ _ s1.heap.objs.size out c _ (fun b u e => ?_) g1 o1 hz hc a1 (lt_of_le_nodup _ a3 (pn.nodup_iff.mpr nd)) (fun k => by rw [pn.mem_iff, ← hm k]) ?_⟩
  · have q := k1 b u e
    have hlt := Heap.lt_size q
    show (sortedHeap (s1.heap.push (seqObj "list" vs.toArray 0)) s1.heap.objs.size vs out.toArray).get? b = some u
    rw [sortedHeap_old (Nat.ne_of_lt hlt) (by rw [size_push']; exact Nat.lt_succ_of_lt hlt)]
    exact Heap.get?_push_of_some _ q
  · rw [pn.length_eq, List.length_map, Array.length_toList]; exact hn
def rSortedSetA (w : World) : List V → Hp → VK → Prop := fun vs H Q => ∃ (a : Addr) (S : Int → Bool) (n : Nat), vs = [V.ref a] ∧ H a = some (SetO w a S n) ∧ n < 4096 ∧
  ∀ (ns : List Int) (p : Addr), ns.Pairwise (· < ·) → (∀ k : Int, k ∈ ns ↔ S k = true) → ns.length = n → H p = none → Q (.ref p) (upd H p (.lst (ns.map V.int)))
theorem cr_sortedSetA (hc : X.calm = true) : CallR X (.builtin "sorted") (rSortedSetA X.w) := by
  intro pins s σ H vs us Q I r h
  obtain ⟨a, S, n, rfl, ha, h4, q⟩ := h
  have R := setO_get I ha
  rw [Vals.ref1 r]
  refine sorted_setA R (I.ok.hd hc) fun s' p out c ns k g o hp hg hi hs hm hl => ?_
  have hlen : (ns.map V.int).length ≤ sizeLine := by rw [List.length_map, hl, sizeLine_eq]; omega
  have hn : H p = none := I.hok.fresh hp
  have J : Inv X pins σ (upd H p (.lst (ns.map V.int))) { s with heap := s'.heap, gens := s'.gens, drawn := s'.drawn, toks := s'.toks } :=
    I.call (ch := []) (Un.laid k hp hn) (I.hok.laid k hp ⟨hlen, out, c, vals_of_ints hi, hg⟩) (by rw [g]; exact I.bare) (fun _ z => nomatch z)
  have e : s' = { s with heap := s'.heap, gens := s'.gens, drawn := s'.drawn, toks := s'.toks } := by
    cases s'
    cases s
    cases o
    rfl
  rw [e]
  exact ⟨.ref p, _, J, rfl, q ns p hs hm hl hn⟩
end
end Sz
/-! a <= b <= c <= .. as a test, of any length -/
namespace Sz
open PySem PySem.Spec PyProof.Rows L2
/-- len within a comprehension -/
def rLenS (K : PySem.W.Frag) : List V → Hp → VK → Prop := fun xs H Q => ∃ p ys, xs = [V.ref p] ∧ (SqL K H p ys ∨ SqT K H p ys) ∧ Q (V.int (ys.length : Nat)) H
abbrev TL := V → L2.St → Hp → (Bool → Hp → Prop) → Prop
section
variable {X : Cx} {a b c : Expr} {cs : List Expr} {op op' : CmpOp} {ops : List CmpOp} {ta tb : TE} {r : R2} {t : TL} {pos : Pos}
/-- the rest of a chain, behind a value -/
def PL (X : Cx) (ops : List CmpOp) (cs : List Expr) (t : TL) : Prop :=
  ∀ (pos : Pos) (pins : List (Addr × Obj)) (s : Shared) (σ : L2.St) (H : Hp) (x : V) (v : Value) (Q : Bool → Hp → Prop), Inv X pins σ H s → RelV x v → t x σ H Q →
    wpAny (model X.prog X.w) X.A (testChain pos v ops (evalEach cs X.env)) (fun k s' => ∃ H', Inv X pins σ H' s' ∧ Q k H') X.xe s
def tlLast (r : R2) (tb : TE) : TL := fun x σ H Q => tb σ H fun y H2 => r x y H2 fun z H3 => ∃ k, z = .bl k ∧ Q k H3
def tlMore (r : R2) (tb : TE) (t : TL) : TL := fun x σ H Q => tb σ H fun y H2 => r x y H2 fun z H3 => ∃ k, z = .bl k ∧ if k = true then t y σ H3 Q else Q false H3
theorem pl_last (ho : OpR X (compareOp op) r) (hb : PE X b tb) : PL X [op] [b] (tlLast r tb) := by
  intro pos pins s σ H x v Q I rx h
  refine test_last (thn (hb.run pins s σ H _ I h) fun u s2 ⟨y, H2, I2, r2, q2⟩ => thn (ho pins s2 σ H2 x y v u _ I2 rx r2 q2) fun d s3 ⟨z, H3, I3, r3, k, e, q3⟩ => ?_)
  subst e
  cases r3
  exact wpAny_truthy_bool ⟨H3, I3, q3⟩
theorem pl_more (ho : OpR X (compareOp op) r) (hb : PE X b tb) (hr : PL X (op' :: ops) (c :: cs) t) : PL X (op :: op' :: ops) (b :: c :: cs) (tlMore r tb t) := by
  intro pos pins s σ H x v Q I rx h
  refine test_link (thn (hb.run pins s σ H _ I h) fun u s2 ⟨y, H2, I2, r2, q2⟩ => thn (ho pins s2 σ H2 x y v u _ I2 rx r2 q2) fun d s3 ⟨z, H3, I3, r3, k, e, q3⟩ => ?_)
  subst e
  cases r3
  refine wpAny_truthy_bool ?_
  cases k with
  | false => exact ite_ff ⟨H3, I3, q3⟩
  | true => exact ite_tt (hr pos pins s3 σ H3 y u Q I3 r2 q3)
def tChs (ta : TE) (t : TL) : TT := fun σ H Q => ta σ H fun x H1 => t x σ H1 Q
theorem pt_chains (ha : PE X a ta) (hr : PL X (op :: op' :: ops) (b :: c :: cs) t) (hm : lastMarks (op :: op' :: ops) (b :: c :: cs) = false := by with_unfolding_all rfl) :
    PT X (.Compare a (op :: op' :: ops) (b :: c :: cs) pos) (tChs ta t) := by
  refine ⟨fun pins s σ H Q I h => ?_⟩
  exact isTrue_chain (thn (ha.run pins s σ H _ I h) fun v s1 ⟨x, H1, I1, r1, q1⟩ => hr pos pins s1 σ H1 x v Q I1 r1 q1) hm
end
end Sz
/-! str(x), f"{x}" by an own __str__; x == y, x != y by an own __eq__ -/
namespace Sz
open PySem PySem.Spec PyProof.Rows L2
/-- what the class must have -/
structure StrK (K : PySem.W.Frag) (C : Addr) : Prop where
  fmt : PySem.W.findIn K (.ref C) "__format__" = some (some (.builtin "object.__format__"))
  mro : PySem.W.mroIn K C (.type "object") = some true
  ne : PySem.W.findIn K (.ref C) "__ne__" = some (some (.builtin "object.__ne__"))
def strB (K : PySem.W.Frag) (C : Addr) : Bool := He.eqO (PySem.W.findIn K (.ref C) "__format__") (some (some (.builtin "object.__format__"))) && (decide (PySem.W.mroIn K C (.type "object") = some true) && He.eqO (PySem.W.findIn K (.ref C) "__ne__") (some (some (.builtin "object.__ne__"))))
theorem strB_ok {K : PySem.W.Frag} {C : Addr} (h : strB K C = true) : StrK K C := by
  obtain ⟨h1, h⟩ := He.ba h
  obtain ⟨h2, h3⟩ := He.ba h
  exact ⟨He.eqO_ok h1, of_decide_eq_true h2, He.eqO_ok h3⟩
section
variable {X : Cx} {CX : CXT} {k n : Nat} {C : Str} {ps : List Str} {sp : Sp} {E : XK}
/-- the own method of an instance is called somewhere below the running body -/
theorem run_own {m : Str} (G : PromM X.prog X.w X.K X.mg X.base CX k C m ps sp) (hx : Passes CX X E) {A : Around} (sb : L2.Sub X k A) {pins : List (Addr × Obj)} {s : Shared} {σ : L2.St} {H : Hp} {vs : List V} {us : List Value} {Q : VK}
    (I : Inv X pins σ H s) (r : Vals vs us) (h : sp vs H Q E) : wpAny (model X.prog X.w) A (call (.ref (He.ma X.K (He.ga X.K C) m)) us) (EP X pins σ Q) X.xe s := by
  obtain ⟨fd, F, b⟩ := G.ex
  have hl := F.len _ _ _ _ h
  have e0 : Env0 X.prog X.w X.K X.mg X.base A X.stack s H := by
    have e := I.env0
    exact ⟨by rw [sb.fr]; exact e.frames, e.mod, e.bs, e.bsz, e.funs, e.frf, e.hok, e.bare⟩
  have hl2 : us.length = ps.length := by rw [← hl]; exact r.length.symm
  refine wpAny_call (codeAny_mono (F.run A X.stack s H ⟨us, []⟩ us vs _ E sb.room e0 (by
    have := b s us I.kIn (by simpa using hl2)
    simpa using this) r h) fun rr s' hq => ?_)
  cases rr with
  | error e => exact hx pins σ H s e s' I hq
  | ok fl =>
    cases fl with
    | ret v =>
      obtain ⟨z, H', I', rz, q⟩ := I.after hq
      exact ⟨z, H', I', rz, q⟩
    | next => exact False.elim hq
    | brk => exact False.elim hq
    | cont => exact False.elim hq
theorem strBack_of {pins : List (Addr × Obj)} {σ : L2.St} {Q : VK} {v : Value} {s' : Shared} (h : EP X pins σ (fun v H => ∃ y : Str, v = .str y ∧ Q (.str y) H) v s') : PySem.W.StrBack (EP X pins σ Q) v s' := by
  obtain ⟨z, H', I', rz, y, rfl, q⟩ := h
  obtain ⟨t, rfl⟩ := rz
  exact ⟨.str y, H', I', ⟨t, rfl⟩, q⟩
/-- f"{x}" by an own __str__ -/
def tFmtO (C : Addr) (sp : Sp) (E : XK) (te : TE) : TE := fun σ H Q => te σ H fun x H1 => ∃ p dx fs, x = .ref p ∧ H1 p = some (.ins C dx fs) ∧ sp [.ref p] H1 (fun v H2 => ∃ y : Str, v = .str y ∧ Q (.str y) H2) E
theorem pe_fmtO {e : Expr} {te : TE} {pos : Pos} (a : StrK X.K (He.ga X.K C)) (G : PromM X.prog X.w X.K X.mg X.base CX k C "__str__" ps sp) (hr : Room (k + 1) X.A) (hx : Passes CX X E) (he : PE X e te) :
    PE X (.FormattedValue e (-1) none pos) (tFmtO (He.ga X.K C) sp E te) := by
  refine ⟨fun pins s σ H Q I h => ?_⟩
  refine wpAny_FormattedValue_plain (thn (he.run pins s σ H _ I h) fun v s1 hv => ?_)
  obtain ⟨x, H1, I1, r1, p, dx, fs, rfl, hp, q⟩ := hv
  obtain rfl : v = Value.ref p := r1
  obtain ⟨m1, O1, _⟩ := ins_get I1.hok hp
  obtain ⟨od1, J1, _⟩ := O1.look
  refine PySem.W.kfo_fieldS hr.in1.units0 I1.kIn J1 a.fmt a.mro G.me.at_ G.me.fn ?_
  exact wpAny_mono (run_own G hx (A := X.A.in1) ⟨hr.in1, rfl⟩ (vs := [.ref p]) (us := [.ref p]) (I1.tok _) (.cons rfl .nil) q) (fun v s' z => strBack_of z) fun _ _ z => z
/-- str(x) by an own __str__ -/
theorem cr_strO (G : PromM X.prog X.w X.K X.mg X.base CX k C "__str__" ps sp) (hr : Room (k + 2) X.A) (hx : Passes CX X E) :
    CallR X (.type "str") (fun xs H Q => ∃ p dx fs, xs = [.ref p] ∧ H p = some (.ins (He.ga X.K C) dx fs) ∧ sp [.ref p] H (fun v H2 => ∃ y : Str, v = .str y ∧ Q (.str y) H2) E) := by
  intro pins s σ H xs us Q I r h
  obtain ⟨p, dx, fs, rfl, hp, h⟩ := h
  obtain ⟨u, rfl, ru⟩ := vals1 r
  obtain rfl : u = Value.ref p := ru
  obtain ⟨m1, O1, _⟩ := ins_get I.hok hp
  obtain ⟨od1, J1, _⟩ := O1.look
  refine callType_codes (T := "str") (Bi := Builtin.«object.__init__») (Q₁ := fun r s₁ => ∃ y u, r = .str y u ∧ EP X pins σ Q r s₁) PySem.F.called_str (PySem.F.typeCall_str_1 _) PySem.F.entry_object_init ?_ ?_
  · refine codeAny_of_tree ?_
    show wpAny _ X.A.in1.in1 (do checkBuiltinCall "str.__new__" ⟨[.type "str", .ref p], []⟩; again (.builtin "str.__new__" ⟨[.type "str", .ref p], []⟩)) _ _ s
    refine wpAny_bind (wpAny_of_eq (PySem.F.newCall_str_1 _) (wpAny_pure ⟨plainId_quiet (by decide +kernel) _, codeAny_builtin PySem.F.entry_str_new ?_⟩))
    rw [Around.under_plainId (by decide +kernel) _]
    rw [str_new_tree]
    refine wpAny_bind (wpAny_pure ?_)
    refine wpAny_bind (wpAny_of_eq isSubtype_str_str ?_)
    have key : wpAny (model X.prog X.w) X.A.in1.in1 (PySem.Builtin.Str.strOf (.ref p)) (fun r s₁ => ∃ y u, r = .str y u ∧ EP X pins σ Q r s₁) X.xe s := by
      unfold PySem.Builtin.Str.strOf
      rw [show PySem.Builtin.Str.isExactStr (.ref p) = false from rfl]
      refine wpAny_bind (m := cRoomFor _ _) (wpAny_cRoomFor hr.in1.in1.units0 ?_)
      refine wpAny_bind (m := callSpecial? (.ref p) (Str.ofString "__str__")) (PySem.W.special_fn I.kIn J1 G.me.at_ (beq_iff_eq.mp G.me.fn) (wpAny_mono (run_own G hx (A := X.A.in1.in1) ⟨hr.in1.in1, rfl⟩ (vs := [.ref p]) (us := [.ref p]) I (.cons rfl .nil) h) (fun v s' z => ?_) fun _ _ y => y))
      obtain ⟨z, H', I', rz, y, rfl, q⟩ := z
      obtain ⟨t, rfl⟩ := rz
      exact wpAny_pure ⟨_, _, rfl, .str y, H', I', ⟨t, rfl⟩, q⟩
    exact wpAny_bind (wpAny_mono key (fun r s₁ hr => wpAny_pure hr) fun _ _ y => y)
  · rintro obj s₁ ⟨y, u, rfl, hq⟩
    exact ⟨typeIs_str _ _ _, PySem.F.args_object_init_2 _ _, object_init_meets PySem.F.called_str.init.lookup PySem.F.called_str.made (by decide) X.prog X.w X.A.in1 _ s₁ ⟨typeIs_str _ _ _, rfl, hq⟩⟩
/-- x == y by an own __eq__ -/
theorem op_eqO (G : PromM X.prog X.w X.K X.mg X.base CX k C "__eq__" ps sp) (hr : Room k X.A) (hx : Passes CX X E) :
    OpR X (compareOp .Eq) (fun x y H Q => ∃ p q dx fs dy gs, x = .ref p ∧ y = .ref q ∧ H p = some (.ins (He.ga X.K C) dx fs) ∧ H q = some (.ins (He.ga X.K C) dy gs) ∧ sp [.ref p, .ref q] H (fun v H2 => ∃ b : Bool, v = .bl b ∧ Q (.bl b) H2) E) := by
  intro pins s σ H x y v u Q I rx ry h
  obtain ⟨p, q, dx, fs, dy, gs, rfl, rfl, hp, hq, h⟩ := h
  obtain rfl : v = Value.ref p := rx
  obtain rfl : u = Value.ref q := ry
  obtain ⟨m1, O1, _⟩ := ins_get I.hok hp
  obtain ⟨od1, J1, _⟩ := O1.look
  obtain ⟨m2, O2, _⟩ := ins_get I.hok hq
  obtain ⟨od2, J2, _⟩ := O2.look
  obtain ⟨m, hF⟩ := I.fr
  show wpAny (model X.prog X.w) X.A (richCompare .Eq (.ref p) (.ref q)) (EP X pins σ Q) X.xe s
  refine PySem.W.cmp_K (op := .Eq) (tb := .ref (He.ga X.K C)) hr.units0 hF I.ok.mod.kin J1 J2.type (by simp [PySem.W.notFirst]) G.me.at_ G.me.fn ?_
  refine wpAny_mono (run_own G hx (A := X.A) ⟨hr, rfl⟩ (vs := [.ref p, .ref q]) (us := [.ref p, .ref q]) I (.cons rfl (.cons rfl .nil)) h) (fun v s' z => ?_) fun _ _ y => y
  obtain ⟨z, H', I', rz, b, rfl, q⟩ := z
  cases rz
  exact ⟨.bl b, H', I', rfl, q⟩
/-- x != y by an own __eq__ -/
theorem op_neO (a : StrK X.K (He.ga X.K C)) (G : PromM X.prog X.w X.K X.mg X.base CX k C "__eq__" ps sp) (hr : Room (k + 1) X.A) (hx : Passes CX X E) :
    OpR X (compareOp .NotEq) (fun x y H Q => ∃ p q dx fs dy gs, x = .ref p ∧ y = .ref q ∧ H p = some (.ins (He.ga X.K C) dx fs) ∧ H q = some (.ins (He.ga X.K C) dy gs) ∧ sp [.ref p, .ref q] H (fun v H2 => ∃ b : Bool, v = .bl b ∧ Q (.bl !b) H2) E) := by
  intro pins s σ H x y v u Q I rx ry h
  obtain ⟨p, q, dx, fs, dy, gs, rfl, rfl, hp, hq, h⟩ := h
  obtain rfl : v = Value.ref p := rx
  obtain rfl : u = Value.ref q := ry
  obtain ⟨m1, O1, _⟩ := ins_get I.hok hp
  obtain ⟨od1, J1, _⟩ := O1.look
  obtain ⟨m2, O2, _⟩ := ins_get I.hok hq
  obtain ⟨od2, J2, _⟩ := O2.look
  show wpAny (model X.prog X.w) X.A (richCompare .NotEq (.ref p) (.ref q)) (EP X pins σ Q) X.xe s
  have one : wpAny (model X.prog X.w) X.A (tryCompare (.ref p) "__ne__" (.ref q)) (fun r s' => ∃ v, r = some v ∧ EP X pins σ Q v s') X.xe s := by
    unfold tryCompare
    refine wpAny_bind ?_
    simp only [callSpecialIfBound?, bindSpecialIfBound?]
    refine wpAny_holding (wpAny_bind (wpAny_bind (wpAny_bind (J1.type.here ((PySem.W.looks_findIn I.kIn a.ne).here ?_)))))
    refine wpAny_bind (wpAny_askSetting (wpAny_ite ?_))
    have run : wpAny (model X.prog X.w) X.A (call (.builtin "object.__ne__") [.ref p, .ref q]) (fun r s' => ∃ b : Bool, r = .bool b ∧ EP X pins σ Q (.bool b) s') X.xe s := by
      refine wpAny_call (codeAny_call_builtin PySem.F.slot_object_ne.plain PySem.F.entry_object_ne (PySem.W.check_slot (i := "object.__ne__") (owner := "object") (n := "__ne__") (by decide +kernel) (by decide +kernel) (J1.type.andThen (PySem.W.looks_mroIn I.kIn a.mro)) (PySem.F.args_object_ne_2 _ _) ?_))
      unfold Builtin.«object.__ne__»
      refine wpAny_bind (m := slotArgs "__ne__" 1 _) (wpAny_pure ?_)
      refine wpAny_bind (m := cRoomFor _ _) (wpAny_cRoomFor hr.in1.units0 ?_)
      refine wpAny_bind (m := callSpecialIfBound? (.ref p) (Str.ofString "__eq__") _) (PySem.W.ifBound_K I.kIn J1 G.me.at_ G.me.fn (wpAny_mono (run_own G hx (A := X.A.in1) ⟨hr.in1, rfl⟩ (vs := [.ref p, .ref q]) (us := [.ref p, .ref q]) I (.cons rfl (.cons rfl .nil)) h) (fun r s' z => ?_) fun _ _ y => y))
      obtain ⟨z, H', I', rz, b, rfl, q⟩ := z
      cases rz
      exact wpAny_bind (wpAny_truthy_bool (wpAny_pure ⟨!b, rfl, .bl !b, H', I', rfl, q⟩))
    have fin : wpAny (model X.prog X.w) X.A (call (.builtin "object.__ne__") ([.ref p] ++ [.ref q]) >>= fun v => pure (some v)) (fun r s2 => ∃ b : Bool, r = some (.bool b) ∧ EP X pins σ Q (.bool b) s2) X.xe s :=
      wpAny_bind (wpAny_mono run (fun v s' h' => wpAny_pure (by obtain ⟨b, rfl, h'⟩ := h'; exact ⟨b, rfl, h'⟩)) fun _ _ h' => h')
    have fin2 := wpAny_mono (Q' := fun r s2 => wpAny (model X.prog X.w) X.A (match r with
      | some .notImplemented => pure none
      | none => pure none
      | some v => pure (some v) : Sem (Option Value)) (fun r s' => ∃ v, r = some v ∧ EP X pins σ Q v s') X.xe s2) fin (fun r s2 z => by
        obtain ⟨b, e, z⟩ := z
        subst e
        exact wpAny_pure ⟨_, rfl, z⟩) fun _ _ z => z
    split
    · exact wpAny_bind (wpAny_of_eq (PySem.F.slot_object_ne.bind _) (wpAny_pure (by exact fin2)))
    · exact wpAny_tryCatch (wpAny_bind (wpAny_of_eq (PySem.F.slot_object_ne.bind _) (wpAny_pure (by exact fin2))))
  unfold richCompare
  simp only [oneThing_ref]
  refine wpAny_holding (wpAny_bind (wpAny_cRoomFor hr.units0 ?_))
  rw [cmpInfo_NotEq]
  dsimp only
  refine wpAny_bind (J1.type.here (wpAny_bind (J2.type.here ?_)))
  rw [show (Value.ref (He.ga X.K C) != Value.ref (He.ga X.K C)) = false from by simp]
  simp only [Bool.false_eq_true, if_false]
  refine wpAny_bind (wpAny_pure ?_)
  simp only [Bool.false_eq_true, if_false]
  refine wpAny_bind (wpAny_mono one (fun r s' z => ?_) fun _ _ e => e)
  obtain ⟨v, rfl, hq⟩ := z
  exact wpAny_pure hq
end
end Sz
/-! repr(x) by an own __repr__ -/
namespace Sz
open PySem PySem.Spec PyProof.Rows L2
section
variable {X : Cx} {CX : CXT} {k n : Nat} {C : Str} {ps : List Str} {sp : Sp} {E : XK}
theorem cr_reprO (G : PromM X.prog X.w X.K X.mg X.base CX k C "__repr__" ps sp) (hr : Room (k + 1) X.A) (hx : Passes CX X E) :
    CallR X (.builtin "repr") (fun xs H Q => ∃ p dx fs, xs = [.ref p] ∧ H p = some (.ins (He.ga X.K C) dx fs) ∧ sp [.ref p] H (fun v H2 => ∃ y : Str, v = .str y ∧ Q (.str y) H2) E) := by
  intro pins s σ H xs us Q I r h
  obtain ⟨p, dx, fs, rfl, hp, h⟩ := h
  obtain ⟨u, rfl, ru⟩ := vals1 r
  obtain rfl : u = Value.ref p := ru
  obtain ⟨m1, O1, _⟩ := ins_get I.hok hp
  obtain ⟨od1, J1, _⟩ := O1.look
  obtain ⟨m, hF⟩ := I.fr
  refine PySem.W.repr_K hr.in1.units0 hF I.ok.mod.kin J1 G.me.at_ G.me.fn ?_
  exact wpAny_mono (run_own G hx (A := X.A.in1) ⟨hr.in1, rfl⟩ (vs := [.ref p]) (us := [.ref p]) I (.cons rfl .nil) h) (fun v s' z => strBack_of z) fun _ _ z => z
end
end Sz
/-! f"{x:>12}" of a number, " " * n -/
namespace Sz
open PySem PySem.Spec PyProof.Rows L2 PySem.Builtin PySem.Builtin.Float
def f12 : FormatSpec := { align := 62, width := some 12 }
theorem parse12 : parseFormatSpec (Str.ofString ">12").cps.toList "int" 62 = .ok f12 := by kernel_rfl
theorem gives12 (a : Int) (t u : Tok) (hd : a.natAbs.log2 < 1920) : Gives (Builtin.«int.__format__» ⟨[.int a t, .str (Str.ofString ">12") u], []⟩) (.str (intSpecText f12 a)) := by
  intro prog w A R s hq
  obtain ⟨hlen, hq⟩ := hq
  have hne : ((Str.ofString ">12").length == 0) = false := by decide
  have hasc : (((Str.ofString ">12").cps.toList.drop 1).any (· ≥ 128) || ((Str.ofString ">12").cps.getD 0 0 ≥ 128 && !([60, 62, 61, 94] : List Nat).contains ((Str.ofString ">12").cps.getD 1 0))) = false := by decide
  have hp := parse12
  have hty : f12.type.getD (if (Str.ofString ">12").cps.back? == some 0 then 0 else 100) = 100 := by decide
  generalize Str.ofString ">12" = spec at hne hasc hp hty ⊢
  unfold Builtin.«int.__format__»
  simp only [selfAndOne, noKeywords, Int.intOfSelf, asInt?, asStr?, List.isEmpty_nil, if_true, pure_bind, bind_pure, bind_assoc, hne, hasc, Bool.false_eq_true, if_false,
    show (Value.str spec u == Value.none) = false from rfl]
  refine wpAny_bind (wpAny_typeNameOf (T := "str") (typeIs_str _ _ _) (by decide) fun _ => ?_)
  refine wpAny_bind (wpAny_typeNameOfCut_int ?_)
  simp only [hp, hty]
  rw [if_pos (by decide)]
  show wpAny _ _ (do let r ← Builtin.overDigitLimit? a; _) _ _ _
  rw [PySem.overDigitLimit_small hd]
  refine wpAny_bind (wpAny_pure ?_)
  show wpAny _ _ (retStr _) _ _ _
  unfold retStr
  have e : ∀ (y : Str), intSpecText f12 a = y → y.length ≤ sizeLine ∧ R (.ok (.ret (.str y s.toks))) { s with toks := s.toks + 1 } := fun y hy => by
    subst hy
    exact ⟨hlen, hq⟩
  refine wpAny_bind (wpAny_mkStr (wpAny_pure (e _ ?_).2) (e _ ?_).1)
  · unfold intSpecText
    generalize Nat.toDigits 10 a.natAbs = ds
    generalize decide (a < 0) = ng
    rfl
  · unfold intSpecText
    generalize Nat.toDigits 10 a.natAbs = ds
    generalize decide (a < 0) = ng
    rfl
def spaces (k : Nat) : Str := ⟨(List.replicate k 32).toArray⟩
theorem spaces_len (k : Nat) : (spaces k).length = k := by
  show (List.replicate k 32).toArray.size = k
  simp
theorem fold_spaces : ∀ (k : Nat) (acc : Array Nat), (List.replicate k #[32]).foldl (· ++ ·) acc = acc ++ (List.replicate k 32).toArray
  | 0, acc => by simp
  | k + 1, acc => by
    rw [List.replicate_succ, List.foldl_cons, fold_spaces k, List.replicate_succ]
    apply Array.ext'
    simp
/-- the text of a number, at least twelve signs -/
def pad12 (i : Int) : Str := spaces (12 - (toString i : Str).length) ++ (toString i : Str)
theorem pad_eq {i : Int} (h : 0 ≤ i) : intSpecText f12 i = pad12 i := by
  obtain ⟨m, rfl⟩ : ∃ m : Nat, i = (m : Int) := ⟨i.toNat, by omega⟩
  have e : (toString (m : Int) : Str) = ⟨((Nat.toDigits 10 m).map Char.toNat).toArray⟩ := text_ofNat m
  unfold pad12
  rw [e]
  have hd : (Nat.toDigits 10 m) ≠ [] := by
    intro h
    have := Nat.length_repr_pos (n := m)
    unfold Nat.repr at this
    rw [h] at this
    simp at this
  unfold intSpecText
  have en : decide ((m : Int) < 0) = false := decide_eq_false (by omega)
  rw [en]
  have ea : (m : Int).natAbs = m := rfl
  rw [ea]
  have em : ((Nat.toDigits 10 m).map fun c => (if ((100 : Nat) == 88) = true then c.toUpper else c).toNat) = (Nat.toDigits 10 m).map Char.toNat := rfl
  rw [em]
  generalize hds : (Nat.toDigits 10 m).map Char.toNat = ds
  have hne : ds.isEmpty = false := by
    rw [← hds]
    cases h : Nat.toDigits 10 m with
    | nil => exact absurd h hd
    | cons _ _ => rfl
  have el : (Str.mk ds.toArray).length = ds.length := rfl
  unfold intField' spaces
  simp only [f12, hne, el]
  show Str.mk _ = Str.mk _ ++ Str.mk _
  rw [show ∀ a b : Array Nat, Str.mk a ++ Str.mk b = Str.mk (a ++ b) from fun _ _ => rfl]
  congr 1
  apply Array.ext'
  simp
section
variable {X : Cx}
def tFmt12 (te ts : TE) : TE := fun σ H Q => te σ H fun x H1 => ts σ H1 fun y H2 => ∃ i : Int, x = .int i ∧ y = .str (Str.ofString ">12") ∧ 0 ≤ i ∧ i.natAbs.log2 < 1920 ∧ (pad12 i).length ≤ sizeLine ∧ Q (.str (pad12 i)) H2
theorem pe_fmt12 {e spec : Expr} {te ts : TE} {pos : Pos} (he : PE X e te) (hs : PE X spec ts) : PE X (.FormattedValue e (-1) (some spec) pos) (tFmt12 te ts) := by
  refine ⟨fun pins s σ H Q I h => ?_⟩
  refine wpAny_FormattedValue_spec (thn (he.run pins s σ H _ I h) fun v s1 hv => ?_)
  obtain ⟨x, H1, I1, r1, q⟩ := hv
  refine thn (hs.run pins s1 σ H1 _ I1 q) fun u s2 hu => ?_
  obtain ⟨y, H2, I2, r2, i, rfl, rfl, i0, hd, hl, q⟩ := hu
  obtain ⟨t, rfl⟩ := r1
  obtain ⟨t2, rfl⟩ := r2
  refine ⟨_, t2, rfl, ?_⟩
  refine wpAny_formatField_spec (T := "int") (idf := "int.__format__") (x := pad12 i) (by decide) (fun s' => typeIs_int s' i t) PySem.F.slot_int_format PySem.F.entry_int_format (fun a b => PySem.F.args_int_format_2 a b) (fun u => ?_) ⟨.str (pad12 i), H2, (I2.tok _), ⟨_, rfl⟩, q⟩ (by decide) hl
  rw [← pad_eq i0]
  exact gives12 i t u hd
/-- f'..' of two parts or more, within a comprehension -/
def tJn (ts : List TE) : TE := fun σ H Q => tJs ts Str.empty σ H fun out H1 => Q (.str out) H1
theorem pe_joinedN {v1 v2 : Expr} {rest : List Expr} {ts : List TE} {pos : Pos} (h : PJ X (v1 :: v2 :: rest) ts) : PE X (.JoinedStr (v1 :: v2 :: rest) pos) (tJn ts) := pe_joined h
/-- " " * n -/
theorem op_mulS : OpR X (binaryOp .Mult) (fun x y H Q => ∃ n : Int, x = .str " " ∧ y = .int n ∧ -1000 ≤ n ∧ n ≤ 1000 ∧ Q (.str (spaces n.toNat)) H) := by
  intro pins s σ H x y v u Q I rx ry h
  obtain ⟨n, rfl, rfl, n0, n1, q⟩ := h
  obtain ⟨t, rfl⟩ := rx
  obtain ⟨t2, rfl⟩ := ry
  refine PySem.P.mul_str ?_ (fun h1 h2 => ?_) (fun h1 h2 => ?_) ?_
  · have h1 : ¬ n < -(2 ^ 63 : Int) := by omega
    have h2 : ¬ n ≥ 2 ^ 63 := by omega
    rw [decide_eq_false h1, decide_eq_false h2]
    rfl
  · have e : ((" " : Str).length : Int) = 1 := by decide
    rw [e]
    have : n * 1 ≤ 2 ^ 63 - 1 := by omega
    have := Int.le_ediv_of_mul_le (show 0 < n by omega) (a := 1) (b := 2 ^ 63 - 1) (by omega)
    omega
  · have e : (" " : Str).length = 1 := by decide
    rw [e]
    unfold PySem.Builtin.Str.tooLong
    exact decide_eq_false (by rw [sizeLine_eq]; omega)
  · by_cases c : n < 1
    · rw [if_pos c]
      have e : n.toNat = 0 := by omega
      rw [e] at q
      exact ⟨by decide, .str _, H, I.tok _, ⟨_, rfl⟩, q⟩
    · rw [if_neg c]
      by_cases d : n = 1
      · subst d
        rw [if_pos (by decide)]
        exact ⟨.str _, H, I, ⟨_, rfl⟩, q⟩
      · rw [if_neg (by simp [d]; decide)]
        have e : (⟨(List.replicate n.toNat (" " : Str).cps).foldl (· ++ ·) #[]⟩ : Str) = spaces n.toNat := by
          show Str.mk ((List.replicate n.toNat #[32]).foldl (· ++ ·) #[]) = _
          rw [fold_spaces]
          simp [spaces]
        rw [e]
        exact ⟨by rw [spaces_len, sizeLine_eq]; omega, .str _, H, I.tok _, ⟨_, rfl⟩, q⟩
end
end Sz
/-! errors: defs that raise, a try with a tuple of classes, a def that looks at the error that is handled -/
namespace Sz
open PySem PySem.Spec PyProof.Rows L2
section
variable {P : Program} {w : World} {K : PySem.W.Frag} {mg : Str → Option Value} {base : Heap}
/-- a def that may raise -/
theorem Prom.ofX {x : Str} {st : Stmt} {ps N : List Str} {sp : Sp} {k : Nat} (D : DefAt K mg x st) (S : FnScope N ps (defScope st)) (len : ∀ vs H Q E, sp vs H Q E → vs.length = ps.length)
    (hb : ∀ (kV doc pm : Value) (an : Option Addr) (cdv ct : Value) (us : List Value), us.length = ps.length → bindArgs (PySem.W.fnOf x x (defArgs st) (defBody st) (defScope st) .none kV doc pm an cdv ct) ⟨us, []⟩ = pure (ps.zip us))
    (hbody : ∀ (f : Addr) (cdv : Value) (A : Around) (outer : List Env) (s : Shared) (H : Hp) (vs : List V) (Q : VK) (E : XK), Room k (A.deeper (envOfC x (defScope st) s.heap.objs.size f cdv)) → sp vs H Q E →
      ∃ t, PSs (cxOf (L2.CX P w) P w K mg base N x (defScope st) f cdv A outer s H E) (defBody st) t ∧ t { nx := fun _ H' => Q .non H', rt := Q } (start N vs) H) :
    Prom P w K mg base (L2.CX P w) (k + 1) x st ps sp := by
  obtain ⟨f, fd, F, hm⟩ := D
  exact ⟨f, fd, F.ok S len (fun cdv A outer s H vs Q E hr hs => hbody f cdv A outer s H vs Q E hr hs), hm, F, F.bindsN hb⟩
end
/-! ### a def that is handed the error, called in the except suite: p, the error's address and object -/
structure FnP (P : Program) (w : World) (K : PySem.W.Frag) (mg : Str → Option Value) (base : Heap) (k : Nat) (f : Addr) (fd : FuncData) (ps : List Str) (sp : Addr × Obj → Sp) : Prop where
  len : ∀ p vs H Q E, sp p vs H Q E → vs.length = ps.length
  run : ∀ (A : Around) (outer : List Env) (s : Shared) (H : Hp) (args : Args) (us : List Value) (vs : List V) (Q : VK) (E : XK) (p : Addr × Obj), L2H.RoomH k A → A.guards = some [] → L2H.PinOk outer H s p → Env0 P w K mg base A outer s H →
    BindsTo s fd args (ps.zip us) → Vals vs us → sp p vs H Q E → codeAny (model P w) A (.call (.ref f) args) (CR CX0 outer P w H s Q E) s
theorem fnP_of {P : Program} {w : World} {K : PySem.W.Frag} {mg : Str → Option Value} {base : Heap} {k : Nat} {f : Addr} {x q : Str} {pr : Arguments} {bd : List Stmt} {sc : Scope} {dvs : List V} {kws : List (Str × V)} {fd : FuncData} {N ps : List Str} {sp : Addr × Obj → Sp}
    (F : FunD K x q pr bd sc dvs kws f fd) (S : FnScope N ps sc) (len : ∀ p vs H Q E, sp p vs H Q E → vs.length = ps.length)
    (hbody : ∀ (cdv : Value) (A : Around) (outer : List Env) (s : Shared) (H : Hp) (vs : List V) (Q : VK) (E : XK) (p : Addr × Obj), L2H.RoomH k (A.deeper (envOfC q sc s.heap.objs.size f cdv)) → (A.deeper (envOfC q sc s.heap.objs.size f cdv)).guards = some [] → sp p vs H Q E →
      ∃ t, PSs (L2H.cxH CX0 P w K mg base N q sc f cdv A outer s H E p).nox bd t ∧ t { nx := fun _ H' => Q .non H', rt := Q } (start N vs) H) : FnP P w K mg base (k + 1) f fd ps sp := by
  obtain ⟨c1, c2, c3, c4, c5, c6, c7, cdv, c9, c10, rfl, look, code, _, _⟩ := F.ex
  refine ⟨len, fun A outer s H args us vs Q E p room gd pin e0 hbind rel want => ?_⟩
  have old : ∀ b o, base.get? b = some o → s.heap.get? b = some o := fun b o e => (e0.bs b o e).1
  have inK : K.In s.heap := e0.mod.kin.keeps old
  have kinds : ∀ y ∈ ps.zip us, sc.names.lookup y.1 = some .local ∨ (sc.names.lookup y.1 = some .cell ∧ ((cellsFrom (s.heap.objs.size + 1) sc.names []).lookup y.1).isSome = true) := by
    rintro ⟨n, v⟩ hy
    have hm : n ∈ ps := (List.of_mem_zip hy).1
    cases S.par n hm with
    | inl z => exact Or.inl z
    | inr z => exact Or.inr ⟨z, PySem.W.cellsFrom_some _ _ _ (.inl z)⟩
  obtain ⟨t, dt, rt⟩ := hbody cdv A outer s H vs Q E p (room.deeper _) gd want
  have dt := dt.nox
  refine codeAny_call_function room.depth (inK _ _ look) rfl S.co S.gen rfl (PySem.W.codeRec_of inK code) ?_
  refine hbind _ _ _ _ (wpAny_newFunctionEnv_cells S.kind kinds ?_)
  rintro _ rfl s1 ic
  refine ⟨(e0.mod.nolimit.keeps old).keeps ic.toInCall.keep, codeAny_func ?_⟩
  refine wpAny_mono (dt.run [] s1 (start N vs) H _ (L2H.inv_startH S pin e0 (len _ _ _ _ _ want) rel ic) rt) ?_ (fun _ _ z => z)
  intro fl s' hs
  cases fl with
  | ret u => exact let ⟨v, _, H', J, rv, qv⟩ := hs; ⟨v, H', J.os, J.bare, J.base, J.hok, rv, qv⟩
  | next => exact let ⟨_, H', J, qv⟩ := hs; ⟨.non, H', J.os, J.bare, J.base, J.hok, rfl, qv⟩
  | brk => exact let ⟨_, _, _, qv⟩ := hs; False.elim qv
  | cont => exact let ⟨_, _, _, qv⟩ := hs; False.elim qv
/-- the def named x keeps the promise sp of the error at p -/
structure PromP (P : Program) (w : World) (K : PySem.W.Frag) (mg : Str → Option Value) (base : Heap) (k : Nat) (x : Str) (st : Stmt) (ps : List Str) (sp : Addr × Obj → Sp) : Prop where
  ex : ∃ f fd, FnP P w K mg base k f fd ps sp ∧ mg x = some (.ref f) ∧ FunD K x x (defArgs st) (defBody st) (defScope st) [] [] f fd ∧ Binds K fd ps []
theorem PromP.of {P : Program} {w : World} {K : PySem.W.Frag} {mg : Str → Option Value} {base : Heap} {x : Str} {st : Stmt} {ps N : List Str} {sp : Addr × Obj → Sp} {k : Nat} (D : DefAt K mg x st) (S : FnScope N ps (defScope st)) (len : ∀ p vs H Q E, sp p vs H Q E → vs.length = ps.length)
    (hb : ∀ (kV doc pm : Value) (an : Option Addr) (cdv ct : Value) (us : List Value), us.length = ps.length → bindArgs (PySem.W.fnOf x x (defArgs st) (defBody st) (defScope st) .none kV doc pm an cdv ct) ⟨us, []⟩ = pure (ps.zip us))
    (hbody : ∀ (f : Addr) (cdv : Value) (A : Around) (outer : List Env) (s : Shared) (H : Hp) (vs : List V) (Q : VK) (E : XK) (p : Addr × Obj), L2H.RoomH k (A.deeper (envOfC x (defScope st) s.heap.objs.size f cdv)) → (A.deeper (envOfC x (defScope st) s.heap.objs.size f cdv)).guards = some [] → sp p vs H Q E →
      ∃ t, PSs (L2H.cxH CX0 P w K mg base N x (defScope st) f cdv A outer s H E p).nox (defBody st) t ∧ t { nx := fun _ H' => Q .non H', rt := Q } (start N vs) H) :
    PromP P w K mg base (k + 1) x st ps sp := by
  obtain ⟨f, fd, F, hm⟩ := D
  exact ⟨f, fd, fnP_of F S len (fun cdv A outer s H vs Q E p hr hg hs => hbody f cdv A outer s H vs Q E p hr hg hs), hm, F, F.bindsN hb⟩
section
variable {X : Cx} {k : Nat} {x : Str} {st : Stmt} {ps : List Str} {sp : Addr × Obj → Sp} {e : Expr} {es : List Expr} {t : TA} {p pos : Pos} {a : Addr} {oe : Obj} {pn : List (Addr × Obj)}
/-- f(..) in the suite that handles the error at a -/
theorem pe_callE (G : PromP X.prog X.w X.K X.mg X.base k x st ps sp) (gd : X.A.guards = some []) (hr : L2H.RoomH k X.A) (hg : Gl X x) (hs : X.stack = X.env :: X.outer) (ha : PA (X.suite a ((a, oe) :: pn)) (e :: es) t)
    (hdb : (x == ("__debug__" : Str)) = false := by decide) (he : starEach (e :: es) X.env = (false, eval e X.env) :: starEach es X.env := by rfl) (hpl : (backTo pos (starEach es X.env)).any (·.1) = false := by rfl) :
    PE (X.suite a ((a, oe) :: pn)) (.Call (.Name x p) (e :: es) [] pos) (tCall (sp (a, oe)) [] E0 t) := by
  obtain ⟨f, fd, F, hm, D, hb⟩ := G.ex
  constructor
  intro pins s σ H Q I h
  refine wpAny_Call_Name_kw (ld_glob I hg hm (PySem.W.callWith_K (h₀ := X.base) I.ok.mod.kin D.kp (thn (ha.run pos pins s σ H _ I h) ?_) he hpl) hdb)
  rintro us s1 ⟨vs, H1, I1, rel, want⟩
  have pin : L2H.PinOk X.stack H1 s1 (a, oe) := by
    obtain ⟨p1, p2, p3, p4, p5⟩ := I1.pin (a, oe) (List.mem_append_left _ (List.mem_cons_self ..))
    refine ⟨p1, p2, fun z => ?_, p5⟩
    rw [hs] at z
    obtain ⟨en, hen, q⟩ := List.mem_filterMap.mp z
    rcases List.mem_cons.mp hen with z | z
    · subst z
      have nf := I1.ok.stk
      rcases nf with nf | ⟨_, nf⟩
      · have nf : X.stack = X.outer := nf
        rw [hs] at nf
        exact absurd (congrArg List.length nf) (by simp)
      · have nf : X.env.frame = some X.env.locals := nf
        rw [nf] at q
        exact p3 (Option.some.inj q).symm
    · exact p4 (List.mem_filterMap.mpr ⟨en, z, q⟩)
  refine ⟨I1.kIn, wpAny_call (codeAny_mono (F.run (X.A.mark (some (.ref a))) X.stack s1 H1 ⟨us, []⟩ (us ++ []) (vs ++ []) Q E0 (a, oe) ⟨hr.dp, hr.un⟩ gd pin I1.env0 (hb s1 us I1.kIn ?_) (rel.append .nil) want) ?_)⟩
  · rw [← (rel.append Paired.nil).length]
    exact F.len _ _ _ _ _ want
  · intro r s' hq
    cases r with
    | error z => exact False.elim hq
    | ok fl =>
      cases fl with
      | ret u => exact I1.after hq
      | next => exact False.elim hq
      | brk => exact False.elim hq
      | cont => exact False.elim hq
end
/-! ### except clauses with names, by a class or by three of them -/
/-- what the test of a clause does: nothing but new objects, and the word whether the error is of one of these classes -/
def TestOk (X : Cx) (t : Expr) (cs : List Value) : Prop := ∀ (a : Addr) (oe : Obj) (pn pins : List (Addr × Obj)) (s : Shared) (σ : L2.St) (H : Hp) (b : Bool) (Q : Bool → Shared → Prop) (E : Value → Shared → Prop),
  Inv (X.suite a ((a, oe) :: pn)) pins σ H s → PySem.W.exmAny X.K oe.cls cs = some b → (∀ h', (∀ c o, s.heap.get? c = some o → h'.get? c = some o) → Q b { s with heap := h' }) →
  wpAny (model X.prog X.w) (X.A.mark (some (.ref a))) (eval t X.env) (fun c s1 => wpAny (model X.prog X.w) (X.A.mark (some (.ref a))) (excMatches (.ref a) c) Q E s1) E s
theorem exmAny_one {K : PySem.W.Frag} {cls c : Value} {b : Bool} (h : PySem.W.exmAny K cls [c] = some b) : PySem.W.exmOne K cls c = some b := by
  obtain ⟨b1, d1, e1, e2, e3⟩ := PySem.W.exmAny_cons h
  have e2 : some false = some d1 := e2
  cases e2
  rw [e1, e3, Bool.or_false]
section
variable {X : Cx}
theorem looks_cls {a : Addr} {oe : Obj} {pn pins : List (Addr × Obj)} {s : Shared} {σ : L2.St} {H : Hp} (I : Inv (X.suite a ((a, oe) :: pn)) pins σ H s) : PySem.W.Looks (model X.prog X.w) s.heap (typeOf (.ref a)) oe.cls := fun A Q E s' k q =>
  wpAny_typeOf_ref (k _ _ (I.pin (a, oe) (List.mem_append_left _ (List.mem_cons_self ..))).1) q
theorem test_name {x : Str} {c : Value} {np : Pos} (hg : Gl X x) (hm : X.mg x = some c) (hd : (x == ("__debug__" : Str)) = false := by decide) : TestOk X (.Name x np) [c] := fun a oe pn pins s σ H b Q E I hx k => by
  refine ld_glob I hg hm ?_ hd
  exact (PySem.W.exm_one (M := model X.prog X.w) I.kIn (looks_cls I) (exmAny_one hx)).here (k s.heap fun _ _ z => z)
theorem test_tup {x y z : Str} {c1 c2 c3 : Value} {p1 p2 p3 tp : Pos} {e1} (g1 : Gl X x) (g2 : Gl X y) (g3 : Gl X z) (m1 : X.mg x = some c1) (m2 : X.mg y = some c2) (m3 : X.mg z = some c3)
    (d1 : (x == ("__debug__" : Str)) = false := by decide) (d2 : (y == ("__debug__" : Str)) = false := by decide) (d3 : (z == ("__debug__" : Str)) = false := by decide) :
    TestOk X (.Tuple [.Name x p1, .Name y p2, .Name z p3] e1 tp) [c1, c2, c3] := fun a oe pn pins s σ H b Q E I hx k => by
  refine wpAny_Tuple_spliced ?_
  show wpAny _ _ (spliced [(false, eval (.Name x p1) X.env), (false, eval (.Name y p2) X.env), (false, eval (.Name z p3) X.env)]) _ _ _
  refine Calls.spliced_cons (ld_glob I g1 m1 (Calls.spliced_cons (ld_glob I g2 m2 (Calls.spliced_cons (ld_glob I g3 m3 (Calls.spliced_nil ⟨(by show 3 ≤ sizeLine; decide), ?_⟩) d3)) d2)) d1)
  have kk : ∀ c o, s.heap.get? c = some o → (s.heap.push { cls := .type "tuple", data := .seq [c1, c2, c3].toArray }).get? c = some o := fun c o e => Heap.get?_push_of_some _ e
  exact (PySem.W.exm_tup3 (M := model X.prog X.w) (I.kIn.keeps kk) ((looks_cls I).keeps kk) (Heap.get?_push_size _ rfl) hx).here (k _ kk)
end
theorem fly_kept {B h h' : Heap} {l : List Env} {e : Addr} {Z : Obj → Prop} (k : ∀ b o, h.get? b = some o → h'.get? b = some o) (x : HandSPX.FlyingZ B l e Z h) : HandSPX.FlyingZ B l e Z h' := by
  obtain ⟨st, no, fr, oe, vs, T, oT, ts, a1, a2, a3, a4, a5, a6, a7, a8⟩ := x
  exact ⟨fun b o e => k b o (st b o e), no, Heap.FunFrames.of_keeps (fun b o e _ => ⟨o, k b o e, rfl⟩) fr, oe, vs, T, oT, ts, k _ _ a1, a2, a3, a4, a5, a6, k _ _ a7, a8⟩
/-- a clause: the classes, the slot of its name, the reading of its suite -/
structure Clause where
  cs : List Value
  i : Nat
  ts : Addr → Obj → Value → Option Addr → TS
/-- behind the suite the name is gone -/
def Ends.gone (D : Ends) (i : Nat) : Ends := { nx := fun σ H => D.nx (σ.set i none) H, rt := D.rt, bk := fun σ H => D.bk (σ.set i none) H, ct := fun σ H => D.ct (σ.set i none) H }
def wCl (K : PySem.W.Frag) (Wout : WX) (D : Ends) : List Clause → WX
  | [] => Wout
  | c :: r => fun cls d σ H => ∃ b, PySem.W.exmAny K cls c.cs = some b ∧ (b = true → ∀ a oe, Zc cls d oe → (∃ vs, oe.data = .fields vs) → H a = none → c.ts a oe cls d (Ends.gone D c.i) (σ.set c.i (some (.ref a))) H) ∧ (b = false → wCl K Wout D r cls d σ H)
inductive ClOk (X : Cx) : List ExceptHandler → List Clause → Prop
  | nil : ClOk X [] []
  | cons {t : Expr} {n : Str} {i : Nat} {b0 : Stmt} {suite : List Stmt} {pos : Pos} {cs : List Value} {ts : Addr → Obj → Value → Option Addr → TS} {hds : List ExceptHandler} {l : List Clause} (ht : TestOk X t cs) (hi : X.N[i]? = some n) (hl : X.env.kindOf n = some .local)
      (hs : ∀ (a : Addr) (oe : Obj) (cls : Value) (d : Option Addr) (pn : List (Addr × Obj)), Zc cls d oe → (∃ vs, oe.data = .fields vs) → PSs (X.suite a ((a, oe) :: pn)) (b0 :: suite) (ts a oe cls d)) (r : ClOk X hds l) : ClOk X (.ExceptHandler (some t) (some n) (b0 :: suite) pos :: hds) (⟨cs, i, ts⟩ :: l)
section
variable {X : Cx} {body : List Stmt} {h0 : ExceptHandler} {hds : List ExceptHandler} {l : List Clause} {pos : Pos} {tb : WX → TS} {Wout : WX}
/-- the error lies on the ground and is looked at by the clauses -/
theorem clauses_run {pins : List (Addr × Obj)} {σ : L2.St} {H : Hp} {D : Ends} {sI s' : Shared} {B : Heap} {a : Addr} {cls : Value} {d : Option Addr} (hs : X.stack = X.env :: X.outer) (hf : X.env.frame = some X.env.locals) (hN : X.N.Nodup) (tk : Takes X Wout) (J : Inv X pins σ H sI)
    (nb : ∀ b o, sI.heap.get? b = some o → b ∉ frs X.stack → B.get? b = some o) (na : H a = none) (os : s'.os = sI.os) (ag : AllBare s'.gens) {hds : List ExceptHandler} {l : List Clause} (hk : ClOk X hds l) :
    ∀ (h : Heap), HandSPX.FlyingZ B (X.env :: X.outer) a (Zc cls d) h → sI.heap.UpToSlots h → wCl X.K Wout D l cls d σ H → wpAny (model X.prog X.w) X.A (handleBy (.ref a) X.env hds) (SP X pins D) X.xe { s' with heap := h } := by
  have ok := J.ok
  have place : ∀ {h : Heap}, HandSPX.FlyingZ B (X.env :: X.outer) a (Zc cls d) h → a ≠ X.env.locals ∧ a ∉ X.fs := fun {h} fl => by
    obtain ⟨oe, vs, he, hz, hd⟩ := fl.there
    have nfr : a ∉ frs (X.env :: X.outer) := fun hm => by
      obtain ⟨_, o', e', hnf⟩ := fl.2.2.1.mem hm
      rw [he] at e'
      cases e'
      exact hnf _ hd
    exact ⟨fun z => nfr (List.mem_filterMap.mpr ⟨X.env, List.mem_cons_self, by rw [hf, z]⟩), fun hm => by
      obtain ⟨e, he, q⟩ := List.mem_filterMap.mp hm
      exact nfr (List.mem_filterMap.mpr ⟨e, List.mem_cons_of_mem _ he, q⟩)⟩
  induction hk with
  | nil =>
    intro h fl up want
    refine wpAny_handleBy_nil ?_
    obtain ⟨k1, k2, k3, oe, vs, T, oT, us, he, hz, hd, h1, hr⟩ := id fl
    unfold PySem.passOn
    refine wpAny_bind (wpAny_field he hd h1 ?_)
    rw [if_neg (show ¬ ((Value.ref T == Value.none) = true) from by simp)]
    have fin : wpAny (model X.prog X.w) X.A (setFlight (.ref a) X.env.frame) (fun _ s4 => wpAny (model X.prog X.w) X.A (throw (.ref a) : Sem Flow) (SP X pins D) X.xe s4) X.xe { s' with heap := h } := by
      rw [hf]
      exact HandSPX.setFlight_upZ fl fun h4 hh4 up4 => wpAny_throw (tk _ _ ⟨a, B, sI, pins, σ, H, cls, d, rfl, J, nb, up.trans up4, .inr (.inr (by rw [hs]; exact hh4)), na, os, ag, want⟩)
    first
      | exact wpAny_bind (wpAny_pure (wpAny_bind fin))
      | exact wpAny_bind fin
  | @cons t n i b0 suite pos cs ts hds2 l2 ht hi hln hsu r ih =>
    intro h fl up want
    obtain ⟨b, hb, yes, no⟩ := want
    obtain ⟨oe, vs, he, hz, hd⟩ := fl.there
    obtain ⟨nL, nF⟩ := place fl
    have J3 : Inv X pins σ H { s' with heap := h } := J.landed nb fl.1 up os ag
    refine wpAny_handleBy_cons (codeAny_handlers_test (ht a oe (X.pn ++ pins) [] _ σ H b _ _ (J3.suite he hd na nL nF) (by rw [hz.1]; exact hb) fun h5 k5 => ?_)) (by intro q; cases q)
    have fl5 := fly_kept k5 fl
    have up5 := up.trans (Heap.UpToSlots.of_keeps k5)
    cases b with
    | false => exact ih h5 fl5 up5 (no rfl)
    | true =>
      refine codeAny_handlers_suite_as (HandSPX.lands_againZ fl5 fun h6 fl6 up6 => ?_)
      obtain ⟨oe6, vs6, he6, hz6, hd6⟩ := fl6.there
      have J6 : Inv X pins σ H { s' with heap := h6 } := J.landed nb fl6.1 (up5.trans up6) os ag
      refine store_ok (X := X.suite a ((a, oe6) :: (X.pn ++ pins))) (v := .ref a) (J6.suite he6 hd6 na nL nF) hN hi (.inl hln) rfl (fun s7 S7 => ?_) (.inr hln)
      refine wpAny_mono ((hsu a oe6 cls d (X.pn ++ pins) hz6 ⟨_, hd6⟩).run [] s7 _ H _ S7 (yes rfl a oe6 hz6 ⟨_, hd6⟩ na)) (fun f s8 hsp => ?_) (fun _ _ z => False.elim z)
      have leave : ∀ {σ8 : L2.St} {H8 : Hp} {Q : Shared → Prop}, Inv (X.suite a ((a, oe6) :: (X.pn ++ pins))) [] σ8 H8 s8 → (∀ s9, Inv X pins (σ8.set i none) H8 s9 → Q s9) →
          wpAny (model X.prog X.w) X.A (do bindName X.env n .none; unbindBehindTheSuite X.env n pos) (fun _ s9 => Q s9) X.xe s8 := fun {σ8 H8 Q} S8 hq => gone_ok (S8.unsuite ok) hN hi hln hq
      cases f with
      | next => exact let ⟨_, _, S8, q8⟩ := hsp; leave S8 fun _ J9 => ⟨_, _, J9, q8⟩
      | brk => exact let ⟨_, _, S8, q8⟩ := hsp; leave S8 fun _ J9 => ⟨_, _, J9, q8⟩
      | cont => exact let ⟨_, _, S8, q8⟩ := hsp; leave S8 fun _ J9 => ⟨_, _, J9, q8⟩
      | ret u => exact let ⟨_, _, _, S8, r8, q8⟩ := hsp; leave S8 fun _ J9 => ⟨_, _, _, J9, r8, q8⟩
/-- try: body, except T as n: suite, .. -/
theorem ps_tryA (hs : X.stack = X.env :: X.outer) (hf : X.env.frame = some X.env.locals) (hN : X.N.Nodup) (tk : Takes X Wout)
    (hb : ∀ (W : WX) (pn : List (Addr × Obj)) (xe : Value → Shared → Prop), Takes (X.tr pn xe) W → PassesOwn (model X.prog X.w) X.A X.env xe → PSs (X.tr pn xe) body (tb W)) (hh : ClOk X (h0 :: hds) l) :
    PS X (.Try body (h0 :: hds) [] [] pos) (fun D σ H => tb (wCl X.K Wout D l) D σ H) := by
  constructor
  intro pins s σ H D I h
  have ok := I.ok
  have hfr : X.A.frames = some (X.env :: X.outer) := by rw [ok.frames, hs]
  refine wpAny_Try_except (wpAny_mono ((hb (wCl X.K Wout D l) (X.pn ++ pins) (fun e s1 => wpAny (model X.prog X.w) X.A (noteFrame e X.env) (fun _ s2 => wpAny (model X.prog X.w) X.A (setFlight e none) (fun _ s3 =>
    wpAny (model X.prog X.w) X.A (handleBy e X.env (h0 :: hds)) (SP X pins D) X.xe s3) X.xe s2) X.xe s1) (fun u s' xx => ?_) PassesOwn.looking).run [] s σ H D (I.toTry _) h) (fun f s1 hsp => ?_) (fun e s1 he => he))
  · obtain ⟨a, B, sI, pins', σ', H', cls, d, rfl, J', nb, up, sky, na, os, ag, want⟩ := xx
    have sky' : Sky B (X.env :: X.outer) a (Zc cls d) X.env.locals s'.heap := by rw [← hs]; exact sky
    show wpAny (model X.prog X.w) X.A (noteFrame (.ref a) X.env) _ _ _
    exact Sky.land Zc.steady hfr hf sky' fun h3 fl3 up3 => clauses_run hs hf hN tk (J'.ofTry ok) nb na os ag hh h3 fl3 (up.trans up3) want
  · cases f with
    | next => exact let ⟨σ', H', J', q⟩ := hsp; wpAny_execs_nil ⟨σ', H', J'.ofTry ok, q⟩
    | brk => exact let ⟨σ', H', J', q⟩ := hsp; ⟨σ', H', J'.ofTry ok, q⟩
    | cont => exact let ⟨σ', H', J', q⟩ := hsp; ⟨σ', H', J'.ofTry ok, q⟩
    | ret u => exact let ⟨v, σ', H', J', r, q⟩ := hsp; ⟨v, σ', H', J'.ofTry ok, r, q⟩
end
end Sz
/-! own errors with one field, over any built-in base -/
namespace Sz
open PySem PySem.Spec PyProof.Rows L2
/-- what is written of the error class at C: its __init__ at fI sets the field f -/
structure ErrC (K : PySem.W.Frag) (C fI : Addr) (f : Str) : Prop where
  ex : ∃ (B newId initId : String) (bmB : List Value), ExcBaseFacts B newId initId bmB ∧ StoreFacts B bmB "object.__setattr__" "object" ∧ PySem.W.excInitIn K C bmB newId = true ∧ PySem.W.excOver K C bmB = true
  sa : PySem.W.findIn K (.ref C) "__setattr__" = some (some (.builtin "object.__setattr__"))
  tk : PySem.W.takerIn K C f = some none
  hd : PySem.W.hasDictIn K C = true
  exC : PySem.W.subIn K (.ref C) (.type "BaseException") = some true
  tyC : PySem.W.typeIn K (.ref C) = some (.type "type")
  kC : PySem.W.keepIn K (.ref C) = true
  iC : PySem.W.findIn K (.ref C) "__init__" = some (some (.ref fI))
  tI : PySem.W.typeIn K (.ref fI) = some (.type "function")
section
open Builtin Builtin.ObjectAttr
variable {prog : Program} {w : World} {A : Around} {R : Result → Shared → Prop} {hp : Heap} {g : Array GenState} {d : Drawn} {t : Nat} {os : OsState}
/-- the first field of an error -/
theorem err_osa {K : PySem.W.Frag} {C fI : Addr} {f : Str} {tk : Tok} {v : Value} {x : Addr} {fv : Array Value} (T : ErrC K C fI f) (X : K.In hp) (hx : hp.get? x = some { cls := .ref C, data := .fields fv })
    (hq : ∀ h' tk' dx, (∀ b o, b ≠ x → hp.get? b = some o → h'.get? b = some o) → hp.objs.size ≤ dx → dx ≠ x → h'.get? x = some { cls := .ref C, dict := some dx, data := .fields fv } →
      h'.Ns1 dx (fun y => if y = f then some v else none) → R (.ok (.ret .none)) ⟨h', g, d, tk', os⟩) :
    codeAny (model prog w) A (.call (.builtin "object.__setattr__") ⟨[.ref x, .str f tk, v], []⟩) R ⟨hp, g, d, t, os⟩ := by
  obtain ⟨B, newId, initId, bmB, FB, SF, _, ov⟩ := T.ex
  have hxs : x ≠ hp.objs.size := Nat.ne_of_lt (Heap.lt_size hx)
  refine PySem.W.osa_openX (s := ⟨hp, g, d, t, os⟩) (od := none) SF X ⟨hx, rfl, rfl, trivial⟩ ov T.tk fun b => ?_
  show wpAny _ _ (storeInOwnDict (.ref x) (.ref C) (.str f tk) f v b) _ _ _
  obtain ⟨cd, hc, hh⟩ := PySem.W.any_some T.hd
  have hcls : PySem.W.Looks (model prog w) hp (classData C) cd := PySem.W.looks_clsIn X hc
  obtain ⟨nm, bs, mro, ns, qn, hd, sn, sb, ab, col, del⟩ := cd
  dsimp only at hh
  subst hh
  unfold storeInOwnDict ownDictForStores
  repeat (first | with_reducible refine HandSPX.store_in_new ?_ ?_ | with_reducible refine wpAny_loadPart_at hx ?_ | with_reducible refine hcls.at ?_ | wp_step)
  · exact ⟨_, #[], _, (Heap.get?_update_ne _ _ _ _ hxs.symm).trans (Heap.get?_push_at rfl rfl), rfl, fun e he => absurd he (by simp), fun _ => rfl⟩
  · intro h' tk' hn' hs
    have h1 : (hp.push { cls := .type "dict", data := .dict #[] }).get? x = some { cls := .ref C, data := .fields fv } := Heap.get?_push_of_some _ hx
    refine hq h' tk' hp.objs.size (fun b o hb ho => ?_) (Nat.le_refl _) hxs.symm ?_ hn'
    · exact (hs.2 b (Nat.ne_of_lt (Heap.lt_size ho))).trans ((Heap.get?_update_ne _ _ _ _ hb).trans (Heap.get?_push_of_some _ ho))
    · exact (hs.2 x hxs).trans (Heap.get?_update_self _ h1 rfl)
end
section
variable {X : Cx} {pins : List (Addr × Obj)} {σ : L2.St} {H : Hp} {s : Shared} {a C fI dx : Addr} {f : Str} {y : V} {u : Value}
theorem err_first {A : Around} {Q : Unit → Shared → Prop} {E : Value → Shared → Prop} (T : ErrC X.K C fI f) (I : Inv X pins σ H s) (e : H a = some (exo a C none)) (ry : RelV y u)
    (h : ∀ dx s', H dx = none → dx ≠ a → Inv X pins σ (upd (upd H dx (exd dx [(f, y)])) a (exo a C (some dx))) s' → Q () s') : wpAny (model X.prog X.w) A (setAttr (.ref a) f u) Q E s := by
  obtain ⟨t1, ho⟩ := exo_at I.hok e
  obtain ⟨hp, g, dr, t, os⟩ := s
  refine PySem.W.set_plain I.kIn (ox := { cls := .ref C, dict := none, data := .fields #[.ref t1, .none, .none, .none, .bool false, .none] }) (od := none) ⟨ho, rfl, rfl, trivial⟩ T.sa (err_osa T I.kIn ho fun h' tk' dx k dn dne hx hn => ?_)
  have free : H dx = none := I.hok.fresh dn
  have old : ∀ {b : Addr} {o : Obj}, hp.get? b = some o → b ≠ dx := fun z => Nat.ne_of_lt (Nat.lt_of_lt_of_le (Heap.lt_size z) dn)
  have off : ∀ {b : Addr}, H b = none → b ≠ a := fun n z => by
    rw [z, e] at n
    cases n
  have same : ∀ {b : Addr} {o : HO}, H b = some o → exo a C none ≠ o → (upd (upd H dx (exd dx [(f, y)])) a (exo a C (some dx))) b = some o := fun z ne => by
    rw [upd_ne (at_ne e z ne), upd_ne (ne_of_none z free)]
    exact z
  refine h dx _ free dne (I.un (t' := tk') ⟨fun b o z n _ _ => k b o (off n) z, fun b o z n _ _ => ⟨o.slots, k b o (off n) z⟩, fun b o z n _ => by rw [upd_ne (off n), upd_ne (old z)]; exact n, fun b o z _ => ?_, fun b xs z => same z exo_tup, fun b o v z => same z exo_frz, fun b ps z => ⟨#[], by rw [same z exo_tbl]; simp⟩⟩ fun b o z => ?_)
  · by_cases hb : b = a
    · exact ⟨_, by rw [hb]; exact hx⟩
    · exact ⟨o, k b o hb z⟩
  · by_cases hb : b = a
    · subst hb
      rw [upd_same] at z
      cases z
      exact exo_ok hx
    · rw [upd_ne hb] at z
      by_cases hd : b = dx
      · subst hd
        rw [upd_same] at z
        cases z
        exact exd_ok hn (relO_put (fs := []) ry fun _ => True.intro)
      · rw [upd_ne hd] at z
        refine (I.hok b o z).stay (fun c v hc q => k c v ?_ q) (fun c hc => same hc exo_own) (fun c xs hc => same hc exo_tup)
        rcases hc with hc | hc
        · rw [hc]
          exact hb
        · exact at_ne e hc exo_own
/-- self.f = e in an error's __init__ -/
theorem ps_errFld {o v : Expr} {p' pos : Pos} {to te : TE} (hop : PE X o to) (hv : PE X v te) (hs : swapsWith v (some (.Attribute o f p')) pos.line X.env = pure false := by rfl) :
    PS X (.Assign [.Attribute o f p'] v pos) (fun D σ H => te σ H fun y H1 => to σ H1 fun x H2 => ∃ a C fI : Addr, x = .ref a ∧ ErrC X.K C fI f ∧ H2 a = some (exo a C none) ∧ ∀ dx, H2 dx = none → dx ≠ a → D.nx σ (upd (upd H2 dx (exd dx [(f, y)])) a (exo a C (some dx)))) := by
  constructor
  intro pins s σ H D I h
  refine plainObj_wpAny_Assign_Attribute (thn (hv.run pins s σ H _ I h) fun w1 s1 ⟨y, H1, I1, r1, q1⟩ => thn (hop.run pins s1 σ H1 _ I1 q1) fun w2 s2 ⟨x, H2, I2, r2, a, C, fI, ex, T, ea, q⟩ => ?_) hs
  subst ex
  obtain rfl : w2 = Value.ref a := r2
  exact err_first T I2 ea r1 fun dx s' n ne J => ⟨σ, _, J, q dx n ne⟩
end
/-- what __init__ of an error class promises -/
def spErr (K : PySem.W.Frag) (C fI : Addr) (f : Str) : Sp := fun vs H Q _ => ∃ (a : Addr) (v : V), vs = [.ref a, v] ∧ ErrC K C fI f ∧ H a = some (exo a C none) ∧ ∀ dx, H dx = none → dx ≠ a → Q .non (upd (upd H dx (exd dx [(f, v)])) a (exo a C (some dx)))
/-- raise C(e) asks: the field's value, then the wish of the error with its own dict -/
def tErr (C : Addr) (f : Str) (te : TE) : L2.St → Hp → XK → Prop := fun σ H Q => te σ H fun v H1 => ∀ d, H1 d = none → Q (.ref C) (some d) (upd H1 d (.xd [(f, v)]))
section
variable {X : Cx} {x : Str} {C fI : Addr} {f : Str} {e : Expr} {te : TE} {k : Nat} {p pos : Pos} {fd : FuncData} {ps : List Str}
theorem pmk_err (T : ErrC X.K C fI f) (F1 : FnOk X.prog X.w X.K X.mg X.base CX0 k fI fd ps (spErr X.K C fI f)) (hb : Binds X.K fd ps []) (hr : Room (k + 1) X.A) (hg : Gl X x) (hm : X.mg x = some (.ref C)) (he : PE X e te)
    (hdb : (x == ("__debug__" : Str)) = false := by decide) (hst : starEach [e] X.env = (false, eval e X.env) :: starEach [] X.env := by rfl) (hpl : (backTo pos (starEach [] X.env)).any (·.1) = false := by rfl) :
    PMk X (.Call (.Name x p) [e] [] pos) (tErr C f te) := by
  intro pins s σ H Q I h
  obtain ⟨B, newId, initId, bmB, FB, SF, ini, _⟩ := T.ex
  refine wpAny_Call_Name_kw (ld_glob I hg hm ?_ hdb)
  refine PySem.W.callWith_K (h₀ := X.base) I.ok.mod.kin T.kC (thn ((pa_cons he pa_nil hst).run pos pins s σ H (fun vs H1 => match vs with | [v] => ∀ d, H1 d = none → Q (.ref C) (some d) (upd H1 d (.xd [(f, v)])) | _ => False) I h) ?_) hst hpl
  rintro us s1 ⟨vs, H1, I1, r1, q⟩
  match vs, r1, q with
  | [v], r1, q =>
    obtain ⟨uv, rfl, ru⟩ := vals1 r1
    refine ⟨I1.kIn, ?_⟩
    show wpAny _ _ (call (.ref C) [uv]) _ _ _
    obtain ⟨nm, N', qn, bs, bm, hdct, sn, sub, ab, col, dd, k0, k1, k2, k3, k5, hC, hT⟩ := PySem.W.excInit_of I1.kIn ini
    obtain ⟨hp, g, dr, tk, os⟩ := s1
    have hsz : hp.objs.size ≤ hp.objs.size + 1 := Nat.le_succ _
    have hn : H1 (hp.objs.size + 1) = none := I1.hok.fresh hsz
    have kk : ∀ b o, hp.get? b = some o → ((hp.push (PySem.W.kdv_tup [uv])).push (HandSPX.excO C hp.objs.size)).get? b = some o := fun b o z => Heap.get?_push_of_some _ (Heap.get?_push_of_some _ z)
    have hget : ((hp.push (PySem.W.kdv_tup [uv])).push (HandSPX.excO C hp.objs.size)).get? (hp.objs.size + 1) = some (HandSPX.excO C hp.objs.size) := by heap_get
    have I2 : Inv X pins σ (upd H1 (hp.objs.size + 1) (exo (hp.objs.size + 1) C none)) ⟨(hp.push (PySem.W.kdv_tup [uv])).push (HandSPX.excO C hp.objs.size), g, dr, tk, os⟩ := I1.laid (t' := tk) kk hsz (exo_ok hget)
    have r2 : Vals [V.ref (hp.objs.size + 1), v] [Value.ref (hp.objs.size + 1), uv] := .cons rfl (.cons ru .nil)
    have want : spErr X.K C fI f [V.ref (hp.objs.size + 1), v] (upd H1 (hp.objs.size + 1) (exo (hp.objs.size + 1) C none)) (fun z H2 => z = .non ∧ ∃ (d : Addr) (fs : List (Str × V)), H2 (hp.objs.size + 1) = some (exo (hp.objs.size + 1) C (some d)) ∧ H2 d = some (exd d fs) ∧ H1 d = none ∧
        Q (.ref C) (some d) (upd (del H2 (hp.objs.size + 1)) d (.xd fs))) (fun _ _ _ => False) := by
      refine ⟨_, v, rfl, T, upd_same, fun dx hdx ndx => ⟨rfl, dx, [(f, v)], upd_same, ?_, ?_, ?_⟩⟩
      · rw [upd_ne ndx, upd_same]
      · rw [upd_ne ndx] at hdx
        exact hdx
      · rw [upd_ne ndx] at hdx
        have eq : upd (del (upd (upd (upd H1 (hp.objs.size + 1) (exo (hp.objs.size + 1) C none)) dx (exd dx [(f, v)])) (hp.objs.size + 1) (exo (hp.objs.size + 1) C (some dx))) (hp.objs.size + 1)) dx (.xd [(f, v)]) = upd H1 dx (.xd [(f, v)]) := by
          funext b
          by_cases hb : b = dx
          · rw [hb, upd_same, upd_same]
          · rw [upd_ne hb, upd_ne hb]
            by_cases ha : b = hp.objs.size + 1
            · rw [ha, del_same, hn]
            · rw [del_ne ha, upd_ne ha, upd_ne hb, upd_ne ha]
        rw [eq]
        exact q dx hdx
    have hl : [Value.ref (hp.objs.size + 1), uv].length = ps.length := F1.len _ _ _ _ want
    refine wpAny_call (HandSPX.call_own FB hT hC (PySem.W.looks_findIn I1.kIn T.iC) (fun self => PySem.W.bind_fn I1.kIn self T.tI) (by show 1 ≤ sizeLine; decide)
      (codeAny_mono (F1.run _ X.stack _ _ ⟨[Value.ref (hp.objs.size + 1), uv], []⟩ ([Value.ref (hp.objs.size + 1), uv] ++ []) ([V.ref (hp.objs.size + 1), v] ++ []) _ (fun _ _ _ => False) (hr.make C [uv] []) (I2.env0.make C [uv] []) (hb _ [Value.ref (hp.objs.size + 1), uv] I2.kIn hl) (r2.append .nil) want) fun r s' hq => ?_))
    cases r with
    | error er => exact False.elim hq
    | ok fl =>
      cases fl with
      | ret u =>
        obtain ⟨z, H2, os2, bare2, un2, hok2, rv, ez, d, fs, ea, ed, hd1, q2⟩ := hq
        subst ez
        obtain ⟨h2, g2, d2, t2, os'⟩ := s'
        exact ⟨rv, mk_end (raises_own T.exC T.tyC) I1 hsz kk un2 hok2 os2 bare2 ea ed hd1 q2⟩
      | next => exact False.elim hq
      | brk => exact False.elim hq
      | cont => exact False.elim hq
end
end Sz
/-! isinstance and the fields of the error that is pinned -/
namespace Sz
open PySem PySem.Spec PyProof.Rows L2
section
open PySem.W PySem.Calls
variable {prog : Program} {w : World} {A : Around} {E : Value → Shared → Prop} {s : Shared} {K : Frag} {x D : Addr} {ox : Obj} {od : Option Obj}
/-- x.__class__ of an error, with a dict or without -/
theorem err_class {Q : Option Value → Shared → Prop} (T : ExcC K D) (X : K.In s.heap) (I : InstAt s.heap x ox D od) (h : Q (some (.ref D)) { s with toks := s.toks + 1 }) : wpAny (model prog w) A (getAttr? (.ref x) "__class__") Q E s := by
  have isC : (clsIn K D).isSome = true := by obtain ⟨cd, hc, _⟩ := any_some T.hd; rw [hc]; rfl
  have found : findObj K D od "__class__" = some (.bind (.builtin "getset_descriptor.__get__") (.builtin "object.__class__")) := by
    cases od with
    | none => exact findObj_dataN isC T.ha T.hn T.ht
    | some o => exact findObj_data isC T.ha T.hn T.ht
  obtain ⟨hp, g, dr, t, os⟩ := s
  have l0 := I.type (M := model prog w)
  have l1 := looks_findIn (M := model prog w) X T.hg
  have l2 := looks_findIn (M := model prog w) X T.hk
  have l3 := looks_find (M := model prog w) X I found
  have sub : Looks (model prog w) hp (isInstance (.ref x) (.type "BaseException")) true := l0.andThen (looks_subIn X T.hs)
  have n2 : (Value.builtin "BaseException.__getattribute__" == Value.builtin "object.__getattribute__") = false := by decide +kernel
  have n1 : (onTheHeap (Value.ref D) && Value.builtin "BaseException.__getattribute__" == Value.builtin "object.__getattribute__") = false := by rw [n2]; rfl
  unfold getAttr? getAttrBy? getAttrBy
  refine wpAny_bind (wpAny_mkText (wpAny_bind (wpAny_attempt (wpAny_holding (wpAny_bind (l0.at (wpAny_bind (l1.at ?_))))))))
  show wpAny _ _ (if (onTheHeap (Value.ref D) && Value.builtin "BaseException.__getattribute__" == Value.builtin "object.__getattribute__") = true then _ else _) _ _ _
  rw [n1, if_neg Bool.false_ne_true]
  unfold getAttrByItsOwn hookBefore
  refine wpAny_bind ?_
  rw [if_pos (show onTheHeap (Value.ref D) = true from rfl)]
  refine l2.at (wpAny_bind (wpAny_attempt (wpAny_holding ?_)))
  unfold callGetattribute
  rw [show (false && onTheHeap (Value.builtin "BaseException.__getattribute__")) = false from rfl, if_neg Bool.false_ne_true]
  unfold boundAndCalled
  rw [PySem.F.excAttr_ValueError.ga.bind (.ref x)]
  refine wpAny_bind (wpAny_pure ?_)
  show wpAny _ _ (call (.builtin "BaseException.__getattribute__") [.ref x, .str "__class__" t]) _ _ _
  refine wpAny_call (codeAny_call_builtin PySem.F.excAttr_ValueError.ga.plain PySem.F.entry_bexc_ga (@check_slot (model prog w) _ _ ⟨hp, g, dr, t + 1, os⟩ "BaseException.__getattribute__" "BaseException" "__getattribute__" (.ref x) [.str "__class__" t] [] _ (by decide +kernel) (by decide +kernel) sub (PySem.F.args_bexc_ga (.ref x) (.str "__class__" t)) ?_))
  unfold Builtin.«object.__getattribute__»
  refine wpAny_bind (wpAny_of_eq (a := ((Value.ref x : Value), [Value.str "__class__" t])) (by first | rfl | (simp only [slotArgs]; rfl)) ?_)
  refine wpAny_bind (wpAny_pure (wpAny_bind (l0.at (wpAny_bind (l3.at ?_)))))
  show wpAny _ _ (holding [Value.builtin "object.__class__"] (call (.builtin "getset_descriptor.__get__") [.builtin "object.__class__", .ref x, .ref D]) >>= ret) _ _ _
  refine wpAny_bind (wpAny_holding (wpAny_call (class_get (s := ⟨hp, g, dr, t + 1, os⟩) (ox := ox) (od := od) X I T.hm ?_)))
  refine wpAny_pure ?_
  show wpAny _ _ (handedOut (.ref D)) _ _ _
  rw [handedOut_of (v := .ref D) rfl]
  first
    | exact wpAny_pure (wpAny_pure h)
    | exact wpAny_pure h
    | exact wpAny_pure (wpAny_bind (wpAny_pure (wpAny_pure h)))
theorem cls_obj {cd : ClassData} (hc : clsIn K D = some cd) : ∃ c dd sl, K.lookup D = some ⟨c, dd, .cls cd, sl⟩ := by
  unfold clsIn at hc
  split at hc
  · rename_i c dd cd' sl ho
    cases hc
    exact ⟨_, _, _, ho⟩
  · cases hc
theorem kit_err (T : ExcC K D) : KitX K (.ref x) (.ref D) (fun h => ∃ od, InstAt h x ox D od) := by
  obtain ⟨cd, hc, _⟩ := any_some T.hd
  obtain ⟨c, dd, sl, ho⟩ := cls_obj hc
  refine ⟨fun _ _ _ ⟨od, I⟩ => I.type, fun _ _ X _ A' Q' E' s' k q => ?_, fun h tp dd' its n sl' X htp => ?_, fun X ⟨od, I⟩ k => err_class T X I k⟩
  · unfold isType loadHead
    exact wpAny_bind (wpAny_loadPart (k _ _ (X _ _ ho)) (wpAny_pure q))
  · refine Bool.eq_false_iff.mpr fun q => ?_
    have e : D = tp := Value.ref.inj (beq_iff_eq.mp q)
    subst e
    cases (X _ _ ho).symm.trans htp
end
section
variable {X : Cx} {a : Addr} {oe : Obj}
/-- isinstance(e, c), e the pinned error -/
def rIsP (K : PySem.W.Frag) (a : Addr) (oe : Obj) : List V → Hp → VK → Prop := fun xs H Q => ∃ (c : V) (cv : Value) (D : Addr) (b : Bool), xs = [.ref a, c] ∧ (∀ u, RelV c u → u = cv) ∧ oe.cls = .ref D ∧ ExcC K D ∧ (∃ vs, oe.data = .fields vs) ∧ (oe.dict = none ∨ ∃ (d : Addr) (fs : List (Str × V)), oe.dict = some d ∧ H d = some (.xd fs)) ∧ PySem.W.kitOne K (.ref D) cv = some b ∧ Q (.bl b) H
theorem inst_pin {pins : List (Addr × Obj)} {σ : L2.St} {H : Hp} {s : Shared} {D : Addr} (hp : (a, oe) ∈ X.pn) (I : Inv X pins σ H s) (hc : oe.cls = .ref D) (hv : ∃ vs, oe.data = .fields vs) (hd : oe.dict = none ∨ ∃ (d : Addr) (fs : List (Str × V)), oe.dict = some d ∧ H d = some (.xd fs)) :
    ∃ od, PySem.W.InstAt s.heap a oe D od := by
  have hg := (I.pin (a, oe) (List.mem_append_left _ hp)).1
  obtain ⟨vs, hv⟩ := hv
  have nc : PySem.W.notCls oe = true := by unfold PySem.W.notCls; rw [hv] <;> rfl
  rcases hd with hd | ⟨d, fs, hd, he⟩
  · exact ⟨none, hg, hc, nc, by rw [hd]; trivial⟩
  · have hx : ObjOk X.prog X.w H s.heap d (.xd fs) := I.hok d _ he
    obtain ⟨mA, hns, _⟩ := hx
    obtain ⟨od, ho, _⟩ := lookIn_ns hns
    exact ⟨some od, hg, hc, nc, by rw [hd]; exact ho⟩
theorem call_isP (hp : (a, oe) ∈ X.pn) : CallR X (.builtin "isinstance") (rIsP X.K a oe) := by
  intro pins s σ H xs us Q I r h
  obtain ⟨c, cv, D, b, rfl, hcv, hc, T, hv, hd, e, q⟩ := h
  cases r with
  | cons rx rr =>
    cases rr with
    | cons rt rr =>
      cases rr
      cases rx
      cases hcv _ rt
      exact PySem.W.kia_one (kit_err T) I.kIn (inst_pin hp I hc hv hd) e (fun z => nomatch z) fun tk => ⟨.bl b, H, I.kept (t' := tk) fun _ _ z => z, rfl, q⟩
/-- e.f, e the pinned error -/
def tXfP (K : PySem.W.Frag) (a : Addr) (oe : Obj) (f : Str) (te : TE) : TE := fun σ H Q => te σ H fun x H1 => x = .ref a ∧ ∃ (D d : Addr) (fs : List (Str × V)) (v : V), oe.cls = .ref D ∧ oe.dict = some d ∧ (∃ vs, oe.data = .fields vs) ∧ XfC K D ∧ PySem.W.findIn K (.ref D) f = some none ∧ H1 d = some (.xd fs) ∧ fs.lookup f = some v ∧ Q v H1
theorem pe_xfP {e : Expr} {te : TE} {pos : Pos} {n : Str} (hp : (a, oe) ∈ X.pn) (he : PE X e te) (hb : attributeBase e n X.env (eval e X.env) = eval e X.env := by rfl) : PE X (.Attribute e n pos) (tXfP X.K a oe n te) := by
  constructor
  intro pins s σ H Q I h
  refine attr_of hb (thn (he.run pins s σ H _ I h) fun u s1 hh => ?_)
  obtain ⟨x, H1, I1, rx, rfl, D, d, fs, v, hc, hd, ⟨vs, hv⟩, T, hno, ea, l, q⟩ := hh
  obtain rfl : u = Value.ref a := rx
  have hx : ObjOk X.prog X.w H1 s1.heap d (.xd fs) := I1.hok d _ ea
  obtain ⟨mA, hns, hr⟩ := hx
  obtain ⟨od, ho, hl⟩ := lookIn_ns hns
  obtain ⟨u, hu, ru⟩ := RelO.some_of (v := v) (o := mA n) (by rw [← l]; exact hr n)
  have hg := (I1.pin (a, oe) (List.mem_append_left _ hp)).1
  have J : PySem.W.InstAt s1.heap a oe D (some od) := ⟨hg, hc, by unfold PySem.W.notCls; rw [hv] <;> rfl, by rw [hd]; exact ho⟩
  exact HandSPX.exc_get I1.kIn J T.ga T.gg T.exC (PySem.W.findObj_own T.hdC hno rfl (by rw [hl, hu])) (handed_of ru) ⟨v, H1, I1.tok _, ru, q⟩
end
end Sz
/-! what repr shows of things of many kinds; counting among flat values -/
namespace Sz
open PySem PySem.Spec PyProof.Rows L2
/-- repr of v is z -/
inductive Shw (K : PySem.W.Frag) (H : Hp) : V → Str → Prop
  | flat {v : V} {z : Str} (h : flatShown v = some z) : Shw K H v z
  | str {y : Str} (h : (reprText y).length ≤ sizeLine) : Shw K H (.str y) (reprText y)
  | dat {a : Addr} {d : PyData} (h : Dp K H (.ref a) d) (h1 : d.showable = true) (h2 : d.hasDict = false) (h3 : d.depth ≤ 40) (h4 : d.shown.length ≤ sizeLine) : Shw K H (.ref a) d.shown
  | edict {a : Addr} (h : H a = some (.dK [])) : Shw K H (.ref a) "{}"
def rReprW (K : PySem.W.Frag) : List V → Hp → VK → Prop := fun xs H Q => ∃ (v : V) (z : Str), xs = [v] ∧ Shw K H v z ∧ Q (.str z) H
section
variable {X : Cx}
theorem cr_reprW (gd : X.A.guards = some []) (hu : X.A.units + 64 < cLine) : CallR X (.builtin "repr") (rReprW X.K) := by
  intro pins s σ H xs us Q I r h
  obtain ⟨v, z, rfl, hs, q⟩ := h
  cases hs with
  | flat h => exact cr_repr pins s σ H [v] us Q I r ⟨v, z, rfl, h, q⟩
  | str h => exact cr_reprS pins s σ H _ us Q I r ⟨_, rfl, h, q⟩
  | dat h h1 h2 h3 h4 => exact cr_reprD gd hu pins s σ H _ us Q I r ⟨_, _, rfl, h, h1, h2, h3, h4, q⟩
  | @edict a h =>
    obtain ⟨u, rfl, ru⟩ := vals1 r
    cases (show u = Value.ref a from ru)
    obtain ⟨_, ns, vs, kv, hd⟩ : ([] : List (Key × V)).length ≤ sizeLine ∧ (a == sysModules) = false ∧ ∃ vs, KV [] vs ∧ s.heap.DictOf (mixKind X.prog X.w) a vs := I.hok a _ h
    cases kv
    obtain ⟨o, es, ep, e1, e2, e3, _, e4, _⟩ := hd
    have e5 : es.toList = [] := by
      cases q : es.toList with
      | nil => rfl
      | cons x l =>
        rw [q] at e4
        cases e4
    have rd : Reads s.heap (.ref a) (.dict []) [a] := .dict (as := []) (bs := []) e1 e2.1 e3 (by rw [e5]; exact .nil) (by rw [e5]; exact .nil)
    refine repr_of_reads' rd (by decide) (fun _ z => ?_) gd (by show X.A.units + (1 + 1) < cLine; omega) (fun _ _ z => z) (fun h' tok tk kept => ?_) (by decide +kernel)
    · have z2 : sysModules = a := by simpa using z
      rw [z2] at ns
      simp at ns
    · exact ⟨.str "{}", H, I.kept (t' := tk) kept, ⟨_, by rw [show (PyData.dict []).shown = "{}" by decide +kernel]⟩, q⟩
/-- xs.count(y), flat values -/
def rCntF (K : PySem.W.Frag) : V → List V → Hp → VK → Prop := fun x xs H Q => ∃ (p : Addr) (ys : List V) (y : V), x = .ref p ∧ xs = [y] ∧ SqL K H p ys ∧ flatV y = true ∧ ys.all flatV = true ∧ Q (.int (ys.countP fun z => eqV z y : Nat)) H
theorem cnt_eqU {y : V} : ∀ {ys : List V} {us : List Value}, Vals ys us → ys.all flatV = true → us.countP (eqU y) = ys.countP fun z => eqV z y
  | _, _, .nil, _ => rfl
  | z :: ys, u :: us, .cons r t, f => by
    rw [List.all_cons, Bool.and_eq_true] at f
    rw [List.countP_cons, List.countP_cons, cnt_eqU t f.2, eqU_of r f.1]
theorem mt_countF : MtR X "list.count" (rCntF X.K) := by
  intro pins s σ H x xs v us Q I rx rxs h
  obtain ⟨p, ys, y, rfl, rfl, hs, fy, fys, q⟩ := h
  cases rx
  obtain ⟨u, rfl, ru⟩ := rxs.one
  obtain ⟨its, rv, ⟨⟨cls, dd, data, sl⟩, n, ho, hc, hdn, hd⟩, hlen⟩ := I.list hs
  simp only at hc hd
  subst hc hd
  refine call_meets PySem.F.slot_list_count ⟨_, ho, rfl⟩ PySem.F.entry_list_count (PySem.F.args_list_count_2 _ _)
    (SeqAt.list_countAt p its.toArray n dd sl u (eqU y)) ⟨ho, fun z hz => mem_eqAt ru fy rv fys z (by simpa using hz), ?_⟩
  refine ⟨.int (ys.countP fun z => eqV z y : Nat), H, I.tok _, ⟨s.toks, ?_⟩, q⟩
  show Value.int ((its.toArray.toList.countP (eqU y) : Nat) : Int) s.toks = _
  rw [show its.toArray.toList = its from rfl, cnt_eqU rv fys]
end
end Sz
/-! a lambda handed to a def that catches what it raises -/
namespace Sz
open PySem PySem.Spec PyProof.Rows L2
theorem takes_len {X : Cx} {W : WX} (t : Takes X W) : Takes X (fun c d σ H => σ.length = X.N.length → W c d σ H) := fun u s' ⟨a, B, sI, pins, σ, H, cls, d, e, I, nb, up, sky, na, os, ag, w⟩ =>
  t u s' ⟨a, B, sI, pins, σ, H, cls, d, e, I, nb, up, sky, na, os, ag, w I.len⟩
/-- what is wished for may be had by something stronger -/
def tWeak (t : TE) : TE := fun σ H Q => ∃ K : VK, (∀ v H', K v H' → Q v H') ∧ t σ H K
theorem pe_weak {X : Cx} {e : Expr} {t : TE} (h : PE X e t) : PE X e (tWeak t) := ⟨fun pins s σ H Q I ⟨K, hK, ht⟩ => wpAny_mono (h.run pins s σ H K I ht) (fun _ _ ⟨v, H', J, r, q⟩ => ⟨v, H', J, r, hK v H' q⟩) (fun _ _ z => z)⟩
/-- the def that calls what it got, whatever its address -/
def Gives (X : Cx) (Ng : List Str) (x : Str) (st : Stmt) (a : Str) (TT : (XK → Hp → VK → Prop) → Hp → VK → Prop) : Prop := ∀ (g : Addr) (cdg : Value), LamX.GivesTo X Ng x (defScope st) g cdg (defBody st) a (X.env.qual ++ "<lambda>") TT
section
variable {X : Cx}
/-- x(lambda: body) -/
theorem pe_lamP {T : List (Addr × Str)} {TT : (XK → Hp → VK → Prop) → Hp → VK → Prop} {x a : Str} {st : Stmt} {c P : Addr} {k : Nat} {Ng : List Str} {params : Arguments} {body : Expr} {scope : Scope} {t : XK → TE} {p lpos pos : Pos} (D : DefAt X.K X.mg x st) (hg : Gl X x) (Sg : FnScope Ng [a] (defScope st))
    (hb : ∀ (kV doc pm : Value) (an : Option Addr) (cdv ct : Value) (us : List Value), us.length = 1 → bindArgs (PySem.W.fnOf x x (defArgs st) (defBody st) (defScope st) .none kV doc pm an cdv ct) ⟨us, []⟩ = pure ([a].zip us))
    (hNg : Ng[0]? = some a) (hva : Vis (defScope st) a) (hG : Gives X Ng x st a TT) (TB : LamX.TabB X.base X.mg c P) (hcode : X.env.code = .ref c) (hmT : (P, X.env.qual ++ "<lambda>") ∈ T) (hu : ∀ p ∈ T, p.1 = P → p.2 = X.env.qual ++ "<lambda>") (hr : Room (k + 2) X.A)
    (L : LamX.LamS X.env.scope scope)
    (hbody : ∀ (A : Around) (outer : List Env) (s : Shared) (H : Hp) (E : XK) (f c' : Addr), Room k (A.deeper (LamX.lamEnv X scope s.heap.objs.size f c')) → PE (LamX.lamCx X A outer s H E scope f c') body (t E))
    (hdef : defaultsOf params X.env = ([], []) := by rfl)
    (hbind : ∀ (q : Str) (cl : List (Str × Addr)) (pm cv ctv : Value), bindArgs (PySem.W.kla_fn "<lambda>" q params body scope cl pm cv ctv) ⟨[], []⟩ = pure [] := by intros; rfl)
    (hdb : (x == ("__debug__" : Str)) = false := by decide) (hd : (a == ("__debug__" : Str)) = false := by decide) (hcd : (a == ("__classdict__" : Str)) = false := by decide) :
    PE X (.Call (.Name x p) [.Lambda params body scope lpos] [] pos) (LamX.tLam T TT t) := by
  obtain ⟨g, fd, F, hm⟩ := D
  have kp := F.kp
  have bs := F.bindsN (ps := [a]) hb
  obtain ⟨oc, od, dV, kV, doc, pm, an, cdv, ct, osl, rfl, lk, hcd', _, _⟩ := F.ex
  exact LamX.pe_lamcall hg hm kp lk hcd' bs Sg hNg hva (hG g cdv) TB hcode hmT hu hr L hdef hbind hbody hdb hd hcd
end
/-- try: t = a() / except (A, B, C) as e: return h(e) / return ("told", t) -/
def TCaught (K : PySem.W.Frag) (cs : List Value) (sp : Addr × Obj → Sp) : (XK → Hp → VK → Prop) → Hp → VK → Prop := fun tl H Q =>
  tl (fun cls d H' => PySem.W.exmAny K cls cs = some true ∧ ∀ a oe, Zc cls d oe → (∃ vs, oe.data = .fields vs) → H' a = none → sp (a, oe) [.ref a] H' Q E0) H (fun v H' => ∀ t, H' t = none → Q (.ref t) (upd H' t (.tup [.str "told", v])))
theorem caught_gives {X : Cx} {x a t e h : Str} {st sth : Stmt} {A1 A2 A3 : Str} {c1 c2 c3 : Value} {k : Nat} {ps : List Str} {sp : Addr × Obj → Sp} {j : Nat} {p1 p2 p3 p4 p5 p6 p7 p8 p9 p10 p11 p12 p13 p14 p15 p16 p17 p18 : Pos} {x1 x2}
    (hN : [a, t, e].Nodup) (hbd : defBody st = [.Try [.Assign [.Name t p1] (.Call (.Name a p2) [] [] p3) p4] [.ExceptHandler (some (.Tuple [.Name A1 p5, .Name A2 p6, .Name A3 p7] x1 p8)) (some e) [.Return (some (.Call (.Name h p9) [.Name e p10] [] p11)) p12] p13] [] [] p14,
      .Return (some (.Tuple [.Constant (.str "told") j p15, .Name t p16] x2 p17)) p18])
    (ka : (defScope st).names.lookup a = some .local) (kt : (defScope st).names.lookup t = some .local) (ke : (defScope st).names.lookup e = some .local) (g1 : (defScope st).names.lookup A1 = some .globalImplicit) (g2 : (defScope st).names.lookup A2 = some .globalImplicit) (g3 : (defScope st).names.lookup A3 = some .globalImplicit)
    (gh : (defScope st).names.lookup h = some .globalImplicit) (m1 : X.mg A1 = some c1) (m2 : X.mg A2 = some c2) (m3 : X.mg A3 = some c3) (G : PromP X.prog X.w X.K X.mg X.base k h sth ps sp) (gd : X.A.guards = some []) (hr : Room (k + 1) X.A)
    (d1 : (A1 == ("__debug__" : Str)) = false := by decide) (d2 : (A2 == ("__debug__" : Str)) = false := by decide) (d3 : (A3 == ("__debug__" : Str)) = false := by decide) (d4 : (h == ("__debug__" : Str)) = false := by decide)
    (d5 : (e == ("__debug__" : Str)) = false := by decide) (d6 : (e == ("__classdict__" : Str)) = false := by decide) (d7 : (t == ("__debug__" : Str)) = false := by decide) (d8 : (t == ("__classdict__" : Str)) = false := by decide) :
    Gives X [a, t, e] x st a (TCaught X.K [c1, c2, c3] sp) := by
  intro g cdg f c' s H Q tl act hc hq
  rw [hbd]
  refine ⟨_, pss_cons (ps_tryA (X := (cxOf C8.CX0 X.prog X.w X.K X.mg X.base [a, t, e] x (defScope st) g cdg X.A X.stack s H C8.E0).nox) (Wout := fun _ _ _ _ => False)
    (tb := fun W D σ H => ∃ Ech : XK, (∀ cls d σ' H', Ech cls d H' → σ'.length = 3 → W cls d σ' H') ∧ σ[0]? = some (some (.ref f)) ∧ H c' = some (LamX.CodeO c' (X.env.qual ++ "<lambda>")) ∧ ∃ K : VK, (∀ v H', K v H' → D.nx (σ.set 1 (some v)) H') ∧ tl Ech H K)
    rfl rfl hN L2.takes0 (fun W pn xe tk _ => ?_)
    (ClOk.cons (i := 2) (test_tup g1 g2 g3 m1 m2 m3 d1 d2 d3) rfl ke (fun a' oe cls d pn _ _ => pss_one (ps_ret (pe_callE G gd ⟨?_, ?_⟩ gh rfl (pa_cons (pe_var (i := 2) rfl (.inl ke) d5 d6) pa_nil) d4))) .nil))
    (pss_one (ps_ret (pe_tup (pa_cons pe_str (pa_cons (pe_var (i := 1) rfl (.inl kt) d7 d8) pa_nil))))), ?_⟩
  · constructor
    intro pins s' σ H' D I ⟨Ech, hW, h1, h2, K, hK, h3⟩
    have hp := act _ pn xe Ech p2 p3 (takes_len tk) (fun cls d σ' H' z hl => hW cls d σ' H' z hl)
    exact (pss_one (ps_set (i := 1) (pos := p4) hN rfl (.inl kt) (pe_weak hp))).run pins s' σ H' D I ⟨K, hK, h1, h2, h3⟩
  · exact (hr.deeper _).dp
  · exact (hr.deeper _).un
  · refine ⟨_, fun cls d σ' H' z hl => ?_, rfl, hc, _, fun v H' z => ?_, hq⟩
    rotate_left
    · exact ⟨v, rfl, by show 2 ≤ sizeLine; decide, z⟩
    obtain ⟨z1, z2⟩ := z
    refine ⟨true, z1, fun _ a' oe hz hv na => ?_, fun z => Bool.noConfusion z⟩
    refine ⟨.ref a', ?_, z2 a' oe hz hv na⟩
    show (σ'.set 2 (some (.ref a')))[2]? = _
    rw [List.getElem?_set_self (by omega)]
/-- what a callee lets out of the lambda's body -/
theorem LamX_pass {X : Cx} {A : Around} {outer : List Env} {s : Shared} {H : Hp} {E : XK} {scope : Scope} {f c' : Addr} : Passes (L2.CX (LamX.lamCx X A outer s H E scope f c').prog (LamX.lamCx X A outer s H E scope f c').w) (LamX.lamCx X A outer s H E scope f c') E := passes_call (takes_of rfl rfl rfl rfl) (fun _ _ _ _ h => h)
theorem gl_lam {X : Cx} {A : Around} {outer : List Env} {s : Shared} {H : Hp} {E : XK} {scope : Scope} {f c' : Addr} {x : Str} (h : scope.names.lookup x = some .globalImplicit) : Gl (LamX.lamCx X A outer s H E scope f c') x := h
/-- a def of the text whose code object is known by its name -/
def DefC (K : PySem.W.Frag) (mg : Str → Option Value) (x : Str) (st : Stmt) : Prop := ∃ fd, FunD K x x (defArgs st) (defBody st) (defScope st) [] [] (He.fAd K (x, none)) fd ∧ mg x = some (.ref (He.fAd K (x, none)))
theorem PromG.ofT {P : Program} {w : World} {K : PySem.W.Frag} {mg : Str → Option Value} {base : Heap} {x : Str} {st : Stmt} {ps N : List Str} {sp : Sp} {k : Nat} (D : DefC K mg x st) (S : FnScope N ps (defScope st)) (len : ∀ vs H Q E, sp vs H Q E → vs.length = ps.length)
    (hb : ∀ (kV doc pm : Value) (an : Option Addr) (cdv ct : Value) (us : List Value), us.length = ps.length → bindArgs (PySem.W.fnOf x x (defArgs st) (defBody st) (defScope st) .none kV doc pm an cdv ct) ⟨us, []⟩ = pure (ps.zip us))
    (hbody : ∀ (f : Addr) (A : Around) (outer : List Env) (s : Shared) (H : Hp) (vs : List V) (Q : VK) (E : XK), Room k (A.deeper (envOfC x (defScope st) s.heap.objs.size f (.ref (He.codeOf K (x, none))))) → (A.deeper (envOfC x (defScope st) s.heap.objs.size f (.ref (He.codeOf K (x, none))))).guards = some [] → sp vs H Q E →
      ∃ t, PSs (cxOf CX0 P w K mg base N x (defScope st) f (.ref (He.codeOf K (x, none))) A outer s H E).nox (defBody st) t ∧ t { nx := fun _ H' => Q .non H', rt := Q } (start N vs) H) :
    PromG P w K mg base (k + 1) x st ps sp := by
  obtain ⟨fd, F, hm⟩ := D
  have key : ∀ cdv, (∃ (oc : Value) (od : Option Addr) (dV kV doc pm : Value) (an : Option Addr) (ct : Value) (osl : Array (Option Value)), K.lookup (He.fAd K (x, none)) = some ⟨oc, od, .func (PySem.W.fnOf x x (defArgs st) (defBody st) (defScope st) dV kV doc pm an cdv ct), osl⟩ ∧ PySem.W.codeIn K cdv x = true) → cdv = .ref (He.codeOf K (x, none)) := by
    rintro cdv ⟨oc, od, dV, kV, doc, pm, an, ct, osl, lk, hc⟩
    obtain ⟨c, rfl⟩ := He.codeIn_ref hc
    rw [He.codeOf_eq lk rfl]
  obtain ⟨c1, c2, c3, c4, c5, c6, c7, cdv, c9, c10, rfl, look, code, d1, d2⟩ := F.ex
  have e := key cdv ⟨_, _, _, _, _, _, _, _, _, look, code⟩
  subst e
  refine ⟨_, _, ⟨len, fun A outer s H args us vs Q E room gd e0 hbind rel want => ?_⟩, hm, F, F.bindsN hb⟩
  have old : ∀ b o, base.get? b = some o → s.heap.get? b = some o := fun b o e => (e0.bs b o e).1
  have inK : K.In s.heap := e0.mod.kin.keeps old
  have kinds : ∀ y ∈ ps.zip us, (defScope st).names.lookup y.1 = some .local ∨ ((defScope st).names.lookup y.1 = some .cell ∧ ((cellsFrom (s.heap.objs.size + 1) (defScope st).names []).lookup y.1).isSome = true) := by
    rintro ⟨n, v⟩ hy
    have hm : n ∈ ps := (List.of_mem_zip hy).1
    cases S.par n hm with
    | inl z => exact Or.inl z
    | inr z => exact Or.inr ⟨z, PySem.W.cellsFrom_some _ _ _ (.inl z)⟩
  obtain ⟨t, dt, rt⟩ := hbody _ A outer s H vs Q E (room.deeper _) gd want
  have dt := dt.nox
  refine codeAny_call_function room.depth (inK _ _ look) rfl S.co S.gen rfl (PySem.W.codeRec_of inK code) ?_
  refine hbind _ _ _ _ (wpAny_newFunctionEnv_cells S.kind kinds ?_)
  rintro _ rfl s1 ic
  refine ⟨(e0.mod.nolimit.keeps old).keeps ic.toInCall.keep, codeAny_func ?_⟩
  refine wpAny_mono (dt.run [] s1 (start N vs) H _ (inv_start S room.hd e0 (len _ _ _ _ want) rel ic) rt) ?_ (fun _ _ z => z)
  intro fl s' hs
  cases fl with
  | ret u => exact let ⟨v, _, H', J, rv, qv⟩ := hs; ⟨v, H', J.os, J.bare, J.base, J.hok, rv, qv⟩
  | next => exact let ⟨_, H', J, qv⟩ := hs; ⟨.non, H', J.os, J.bare, J.base, J.hok, rfl, qv⟩
  | brk => exact let ⟨_, _, _, qv⟩ := hs; False.elim qv
  | cont => exact let ⟨_, _, _, qv⟩ := hs; False.elim qv
end Sz
/-! error classes of the program by their promises; the table of all error classes -/
namespace Sz
open PySem PySem.Spec PyProof.Rows L2
/-- C(v) makes an error with the field f -/
structure PromE (P : Program) (w : World) (K : PySem.W.Frag) (mg : Str → Option Value) (base : Heap) (k : Nat) (C f : Str) : Prop where
  T : ErrC K (He.ga K C) (He.ma K (He.ga K C) "__init__") f
  mg_ : mg C = some (.ref (He.ga K C))
  ex : ∃ fd ps, FnOk P w K mg base CX0 k (He.ma K (He.ga K C) "__init__") fd ps (spErr K (He.ga K C) (He.ma K (He.ga K C) "__init__") f) ∧ Binds K fd ps []
theorem PromE.of {P : Program} {w : World} {K : PySem.W.Frag} {mg : Str → Option Value} {base : Heap} {C f q p0 p1 : Str} {st : Stmt} {a1 a2 a3 a4 : Pos} (T : ErrC K (He.ga K C) (He.ma K (He.ga K C) "__init__") f) (hm : mg C = some (.ref (He.ga K C))) (D : DefAtM K C "__init__" q st) (S : FnScope [p0, p1] [p0, p1] (defScope st))
    (hbd : defBody st = [.Assign [.Attribute (.Name p0 a1) f a2] (.Name p1 a3) a4]) (l0 : (defScope st).names.lookup p0 = some .local) (l1 : (defScope st).names.lookup p1 = some .local)
    (hb : ∀ (kV doc pm : Value) (an : Option Addr) (cdv ct : Value) (us : List Value), us.length = 2 → bindArgs (PySem.W.fnOf "__init__" q (defArgs st) (defBody st) (defScope st) .none kV doc pm an cdv ct) ⟨us, []⟩ = pure ([p0, p1].zip us))
    (d0 : (p0 == ("__debug__" : Str)) = false := by decide) (d1 : (p1 == ("__debug__" : Str)) = false := by decide) (e0 : (p0 == ("__classdict__" : Str)) = false := by decide) (e1 : (p1 == ("__classdict__" : Str)) = false := by decide) : PromE P w K mg base 1 C f := by
  obtain ⟨fd, F⟩ := D
  refine ⟨T, hm, fd, [p0, p1], F.ok (k := 0) S (fun vs H Q E h => ?_) (fun cdv A outer s H vs Q E hr h => ?_), F.bindsN (ps := [p0, p1]) hb⟩
  · obtain ⟨a, v, rfl, _⟩ := h
    rfl
  · obtain ⟨a, v, rfl, T', ha, k⟩ := h
    rw [hbd]
    exact ⟨_, pss_one (ps_errFld (pe_var (i := 0) rfl (.inl l0) d0 e0) (pe_var (i := 1) rfl (.inl l1) d1 e1)), v, rfl, .ref a, rfl, a, _, _, rfl, T', ha, fun dx h1 h2 => k dx h1 h2⟩
section
variable {X : Cx} {x f : Str} {e : Expr} {te : TE} {k : Nat} {p pos rpos : Pos} {W : WX}
/-- raise C(e) -/
theorem ps_raiseE (G : PromE X.prog X.w X.K X.mg X.base k x f) (hr : Room (k + 1) X.A) (hg : Gl X x) (tk : Takes X W) (he : PE X e te) (hc : X.calm = true := by rfl)
    (hdb : (x == ("__debug__" : Str)) = false := by decide) (hst : starEach [e] X.env = (false, eval e X.env) :: starEach [] X.env := by rfl) (hpl : (backTo pos (starEach [] X.env)).any (·.1) = false := by rfl) :
    PS X (.Raise (some (.Call (.Name x p) [e] [] pos)) none rpos) (fun _ σ H => te σ H fun v H1 => ∀ d, H1 d = none → W (.ref (He.ga X.K x)) (some d) σ (upd H1 d (.xd [(f, v)]))) := by
  obtain ⟨fd, ps, F, b⟩ := G.ex
  exact ps_raise hc tk (pmk_err G.T F b hr hg G.mg_ he hdb hst hpl)
end
/-- what a callee lets out, this def lets out -/
theorem passX {P : Program} {w : World} {K : PySem.W.Frag} {mg : Str → Option Value} {base : Heap} {N : List Str} {q : Str} {sc : Scope} {f : Addr} {cdv : Value} {A : Around} {outer : List Env} {s : Shared} {H : Hp} {E : XK} :
    Passes (L2.CX P w) (cxOf (L2.CX P w) P w K mg base N q sc f cdv A outer s H E) E := passes_call (takes_of rfl rfl rfl rfl) (fun _ _ _ _ h => h)
/-! ### facts by looking -/
/-- the built-in base: 0 ValueError, 1 LookupError, 2 ArithmeticError -/
def ebase : Nat → String
  | 0 => "ValueError"
  | 1 => "LookupError"
  | _ => "ArithmeticError"
def etail (b : Nat) : List Value := [.type (ebase b), .type "Exception", .type "BaseException", .type "object"]
def errCB (K : PySem.W.Frag) (b : Nat) (C : Addr) (f : Str) : Bool :=
  PySem.W.excInitIn K C (etail b) (ebase b ++ ".__new__") && (PySem.W.excOver K C (etail b) && (He.eqO (PySem.W.findIn K (.ref C) "__setattr__") (some (some (.builtin "object.__setattr__"))) && (He.eqO (PySem.W.takerIn K C f) (some none) &&
  (PySem.W.hasDictIn K C && (decide (PySem.W.subIn K (.ref C) (.type "BaseException") = some true) && (decide (PySem.W.typeIn K (.ref C) = some (.type "type")) && (PySem.W.keepIn K (.ref C) && (He.eqO (PySem.W.findIn K (.ref C) "__init__") (some (some (.ref (He.ma K C "__init__")))) &&
  decide (PySem.W.typeIn K (.ref (He.ma K C "__init__")) = some (.type "function"))))))))))
theorem errCB_ok {K : PySem.W.Frag} {b : Nat} {C : Addr} {f : Str} (h : errCB K b C f = true) : ErrC K C (He.ma K C "__init__") f := by
  obtain ⟨h1, h⟩ := He.ba h
  obtain ⟨h2, h⟩ := He.ba h
  obtain ⟨h3, h⟩ := He.ba h
  obtain ⟨h4, h⟩ := He.ba h
  obtain ⟨h5, h⟩ := He.ba h
  obtain ⟨h6, h⟩ := He.ba h
  obtain ⟨h7, h⟩ := He.ba h
  obtain ⟨h8, h⟩ := He.ba h
  obtain ⟨h9, h10⟩ := He.ba h
  refine ⟨?_, He.eqO_ok h3, He.eqO_ok h4, h5, of_decide_eq_true h6, of_decide_eq_true h7, h8, He.eqO_ok h9, of_decide_eq_true h10⟩
  match b, h1, h2 with
  | 0, h1, h2 => exact ⟨_, _, _, _, PySem.F.excBase_ValueError, PySem.F.store_ValueError, h1, h2⟩
  | 1, h1, h2 => exact ⟨_, _, _, _, PySem.F.excBase_LookupError, PySem.F.store_LookupError, h1, h2⟩
  | n + 2, h1, h2 => exact ⟨_, _, _, _, PySem.F.excBase_ArithmeticError, PySem.F.store_ArithmeticError, h1, h2⟩
/-- the words of all error classes -/
def ewords : List Str := ["NotAWrap", "NotAStack", "NotARoad", "InvalidKind", "InvalidBase", "InvalidLength", "InvalidNumber", "InvalidText", "InvalidRow", "InvalidNumbers", "InvalidWraps", "InvalidSeen", "InvalidDeeds", "NothingToPop", "NothingToUndo", "Busy", "TooFine", "TooManyWraps", "TooLong"]
def ew (i : Nat) : Str := ewords.getD i Str.empty
/-- of which base, by its place -/
def eb (i : Nat) : Nat := if i < 13 then 0 else if i < 16 then 1 else 2
def excCB (K : PySem.W.Frag) (D : Addr) : Bool := He.eqO (PySem.W.findIn K (.ref D) "__getattribute__") (some (some (.builtin "BaseException.__getattribute__"))) && (He.eqO (PySem.W.findIn K (.ref D) "__getattr__") (some none) && (decide (PySem.W.subIn K (.ref D) (.type "BaseException") = some true) && (PySem.W.hasDictIn K D &&
  (He.eqO (PySem.W.findIn K (.ref D) "__class__") (some (some (.builtin "object.__class__"))) && (He.eqO (PySem.W.specialIn K (.builtin "object.__class__") "__get__") (some (some (.builtin "getset_descriptor.__get__"))) && (decide (PySem.W.takesIn K (.builtin "object.__class__") = some true) && decide (PySem.W.mroIn K D (.type "object") = some true)))))))
theorem excCB_ok {K : PySem.W.Frag} {D : Addr} (h : excCB K D = true) : ExcC K D ∧ XfC K D := by
  obtain ⟨h1, h⟩ := He.ba h
  obtain ⟨h2, h⟩ := He.ba h
  obtain ⟨h3, h⟩ := He.ba h
  obtain ⟨h4, h⟩ := He.ba h
  obtain ⟨h5, h⟩ := He.ba h
  obtain ⟨h6, h⟩ := He.ba h
  obtain ⟨h7, h8⟩ := He.ba h
  exact ⟨⟨He.eqO_ok h1, He.eqO_ok h2, of_decide_eq_true h3, h4, He.eqO_ok h5, He.eqO_ok h6, of_decide_eq_true h7, of_decide_eq_true h8⟩, He.eqO_ok h1, He.eqO_ok h2, of_decide_eq_true h3, h4⟩
def ebs : List Str := ["Misfit", "Untimely", "Excess"]
/-- all that is asked of the error class at place i -/
def etabB (K : PySem.W.Frag) (i : Nat) : Bool := excCB K (He.ga K (ew i)) && ((List.range 19).all (fun j => decide (PySem.W.kitOne K (.ref (He.ga K (ew i))) (.ref (He.ga K (ew j))) = some (decide (i = j)))) &&
  ((List.range 3).all (fun j => decide (PySem.W.kitOne K (.ref (He.ga K (ew i))) (.ref (He.ga K (ebs.getD j Str.empty))) = some (decide (eb i = j))) && decide (PySem.W.kitOne K (.ref (He.ga K (ew i))) (.type (ebase j)) = some (decide (eb i = j)))) &&
  (([("value" : Str), "index", "limit"]).all (fun f => He.eqO (PySem.W.findIn K (.ref (He.ga K (ew i))) f) (some none)) && decide (PySem.W.exmAny K (.ref (He.ga K (ew i))) [.ref (He.ga K "Misfit"), .ref (He.ga K "Untimely"), .ref (He.ga K "Excess")] = some true))))
structure ErrTab (K : PySem.W.Frag) : Prop where
  exc : ∀ i < 19, ExcC K (He.ga K (ew i))
  xf : ∀ i < 19, XfC K (He.ga K (ew i))
  kit : ∀ i < 19, ∀ j < 19, PySem.W.kitOne K (.ref (He.ga K (ew i))) (.ref (He.ga K (ew j))) = some (decide (i = j))
  kb : ∀ i < 19, ∀ j < 3, PySem.W.kitOne K (.ref (He.ga K (ew i))) (.ref (He.ga K (ebs.getD j Str.empty))) = some (decide (eb i = j))
  ko : ∀ i < 19, ∀ j < 3, PySem.W.kitOne K (.ref (He.ga K (ew i))) (.type (ebase j)) = some (decide (eb i = j))
  no : ∀ i < 19, ∀ f ∈ [("value" : Str), "index", "limit"], PySem.W.findIn K (.ref (He.ga K (ew i))) f = some none
  any : ∀ i < 19, PySem.W.exmAny K (.ref (He.ga K (ew i))) [.ref (He.ga K "Misfit"), .ref (He.ga K "Untimely"), .ref (He.ga K "Excess")] = some true
theorem etab_ok {K : PySem.W.Frag} (h : (List.range 19).all (etabB K) = true) : ErrTab K := by
  have g : ∀ i < 19, etabB K i = true := fun i hi => List.all_eq_true.mp h i (List.mem_range.mpr hi)
  have k : ∀ i < 19, _ := fun i hi => He.ba (g i hi)
  refine ⟨fun i hi => (excCB_ok (He.ba (g i hi)).1).1, fun i hi => (excCB_ok (He.ba (g i hi)).1).2, fun i hi j hj => ?_, fun i hi j hj => ?_, fun i hi j hj => ?_, fun i hi f hf => ?_, fun i hi => ?_⟩
  · exact of_decide_eq_true (List.all_eq_true.mp (He.ba (He.ba (g i hi)).2).1 j (List.mem_range.mpr hj))
  · exact of_decide_eq_true (He.ba (List.all_eq_true.mp (He.ba (He.ba (He.ba (g i hi)).2).2).1 j (List.mem_range.mpr hj))).1
  · exact of_decide_eq_true (He.ba (List.all_eq_true.mp (He.ba (He.ba (He.ba (g i hi)).2).2).1 j (List.mem_range.mpr hj))).2
  · exact He.eqO_ok (List.all_eq_true.mp (He.ba (He.ba (He.ba (He.ba (g i hi)).2).2).2).1 f hf)
  · exact of_decide_eq_true (He.ba (He.ba (He.ba (He.ba (g i hi)).2).2).2).2
end Sz
/-! == by an own __eq__ that is promised to say True -/
namespace Sz
open PySem PySem.Spec PyProof.Rows L2
section
variable {X : Cx} {CX : CXT} {k : Nat} {C : Str} {ps : List Str} {R : Addr → Addr → Hp → Prop} {E : XK}
theorem rcG_insP (G : PromM X.prog X.w X.K X.mg X.base CX k C "__eq__" ps (spEq R)) (hx : Passes CX X E) : RcG X k (DIns (He.ga X.K C) R) := by
  obtain ⟨fd, F, b⟩ := G.ex
  exact rcG_ins F G.me.at_ G.me.fn b hx
theorem eqG_insP (G : PromM X.prog X.w X.K X.mg X.base CX k C "__eq__" ps (spEq R)) (hx : Passes CX X E) : EqG X k (DIns (He.ga X.K C) R) := by
  obtain ⟨fd, F, b⟩ := G.ex
  exact eqG_ins F G.me.at_ G.me.fn b hx
end
end Sz
/-! lists or tuples walked, a class with plain parameters, two tuples zipped -/
namespace Sz
open PySem PySem.Spec PyProof.Rows L2
section
variable {X : Cx} {tg l : Expr} {tl : TE}
/-- for x in s, s a list or a tuple -/
theorem pi_seq (hl : PE X l tl) : PI X tg l (fun σ H R => iList X.K tl σ H R ∨ iTup X.K tl σ H R) := by
  refine ⟨fun pins s σ H R I h => ?_⟩
  rcases h with h | h
  · exact (pi_list (tg := tg) hl).run pins s σ H R I h
  · exact (pi_tup (tg := tg) hl).run pins s σ H R I h
end
section
variable {K : PySem.W.Frag} {a b : Addr} {xs ys : List V} {n : Nat}
theorem walk_zipT (hn : n = min xs.length ys.length) : Walk (RZ.ItzT K a b) n (fun H => SqT K H a xs ∧ SqT K H b ys) (YPair (fun i => xs[i]?) (fun i => ys[i]?)) := by
  refine ⟨fun i H hi g => ?_, fun H g => ⟨xs, ys, g.1, g.2, by omega⟩, fun i H x H' hi g y => ?_⟩
  · have h1 : i < xs.length := by omega
    have h2 : i < ys.length := by omega
    exact ⟨xs, ys, xs[i], ys[i], g.1, g.2, List.getElem?_eq_getElem h1, List.getElem?_eq_getElem h2⟩
  · obtain ⟨T, x1, y1, e1, e2, e3, e4, e5⟩ := y
    exact ⟨T, x1, y1, e1, e2, e3, e4 xs g.1, e5 ys g.2⟩
end
section
variable {P : Program} {w : World} {K : PySem.W.Frag} {mg : Str → Option Value} {base : Heap}
/-- a class whose __init__ takes its parameters one by one -/
theorem PromC.plain {C q : Str} {st : Stmt} {N ps : List Str} {sp sp0 : Sp} {k : Nat} (mk : Mk K (He.ga K C) (He.ma K (He.ga K C) "__init__")) (hm : mg C = some (.ref (He.ga K C))) (D : DefAtM K C "__init__" q st) (S : FnScope N ps (defScope st))
    (len : ∀ vs H Q E, sp0 vs H Q E → vs.length = ps.length)
    (hb : ∀ (kV doc pm : Value) (an : Option Addr) (cdv ct : Value) (us : List Value), us.length = ps.length → bindArgs (PySem.W.fnOf "__init__" q (defArgs st) (defBody st) (defScope st) .none kV doc pm an cdv ct) ⟨us, []⟩ = pure (ps.zip us))
    (hbody : ∀ (f : Addr) (cdv : Value) (A : Around) (outer : List Env) (s : Shared) (H : Hp) (vs : List V) (Q : VK) (E : XK), Room k (A.deeper (envOfC q (defScope st) s.heap.objs.size f cdv)) → sp0 vs H Q E →
      ∃ t, PSs (cxOf CX0 P w K mg base N q (defScope st) f cdv A outer s H E).nox (defBody st) t ∧ t { nx := fun _ H' => Q .non H', rt := Q } (start N vs) H)
    (hsp : ∀ vs H Q E, sp vs H Q E → ∀ x dx, H x = none → H dx = none → dx ≠ x → sp0 (.ref x :: vs) (upd (upd H dx (.own x)) x (.ins (He.ga K C) dx [])) (fun u H2 => u = .non ∧ Q (.ref x) H2) E) :
    PromC P w K mg base CX0 (k + 1) C sp := by
  obtain ⟨fd, F⟩ := D
  have F1 : FnOk P w K mg base CX0 (k + 1) (He.ma K (He.ga K C) "__init__") fd ps sp0 := F.ok S len (fun cdv A outer s H vs Q E hr hs => by
    obtain ⟨t, h1, h2⟩ := hbody _ cdv A outer s H vs Q E hr hs
    exact ⟨t, h1.nox, h2⟩)
  refine ⟨mk, hm, _, F1.raw (F.bindsN hb) .nil, fun vs H Q E hs x dx hx hdx ne => ?_⟩
  rw [List.append_nil]
  exact hsp vs H Q E hs x dx hx hdx ne
end
end Sz
/-! what isinstance says of things of many kinds, own classes among them; methods that raise, methods in the suite that handles an error -/
namespace Sz
open PySem PySem.Spec PyProof.Rows L2
def btys : List String := ["int", "bool", "NoneType", "str", "list", "tuple", "dict", "float"]
structure KitTab (K : PySem.W.Frag) (Cs : List Str) : Prop where
  bt : ∀ T ∈ btys, ∀ C ∈ Cs, PySem.W.kitOne K (.type T) (.ref (He.ga K C)) = some false
  tb : ∀ C ∈ Cs, ∀ T ∈ btys, PySem.W.kitOne K (.ref (He.ga K C)) (.type T) = some false
  tt : ∀ C ∈ Cs, ∀ D ∈ Cs, PySem.W.kitOne K (.ref (He.ga K C)) (.ref (He.ga K D)) = some (decide (C = D))
def kitTabB (K : PySem.W.Frag) (Cs : List Str) : Bool :=
  (btys.all fun T => Cs.all fun C => decide (PySem.W.kitOne K (.type T) (.ref (He.ga K C)) = some false)) &&
  ((Cs.all fun C => btys.all fun T => decide (PySem.W.kitOne K (.ref (He.ga K C)) (.type T) = some false)) &&
  (Cs.all fun C => Cs.all fun D => decide (PySem.W.kitOne K (.ref (He.ga K C)) (.ref (He.ga K D)) = some (decide (C = D)))))
theorem kitTab_ok {K : PySem.W.Frag} {Cs : List Str} (h : kitTabB K Cs = true) : KitTab K Cs := by
  obtain ⟨h1, h⟩ := He.ba h
  obtain ⟨h2, h3⟩ := He.ba h
  exact ⟨fun T hT C hC => of_decide_eq_true (List.all_eq_true.mp (List.all_eq_true.mp h1 T hT) C hC), fun C hC T hT => of_decide_eq_true (List.all_eq_true.mp (List.all_eq_true.mp h2 C hC) T hT), fun C hC D hD => of_decide_eq_true (List.all_eq_true.mp (List.all_eq_true.mp h3 C hC) D hD)⟩
theorem tyX_same {K : PySem.W.Frag} {H H' : Hp} {v : V} {t : Value} (s : Same H H') (h : TyX K H v t) : TyX K H' v t := by
  cases h with
  | base h =>
    cases h with
    | non => exact .base .non
    | bl x => exact .base (.bl x)
    | int i => exact .base (.int i)
    | str x => exact .base (.str x)
    | flt x => exact .base (.flt x)
    | lst e => exact .base (.lst (s _ _ e))
    | frz e => exact .base (.frz (s _ _ e))
    | tup e => exact .base (.tup (s _ _ e))
    | dK e => exact .base (.dK (s _ _ e))
    | dT e => exact .base (.dT (s _ _ e))
    | ins e a b c d f => exact .base (.ins (s _ _ e) a b c d f)
  | byt b => exact .byt b
  | set e => exact .set (s _ _ e)
  | kList e c => exact .kList e c
  | kTuple e c => exact .kTuple e c
  | kDict e c => exact .kDict e c
  | fTuple e => exact .fTuple (s _ _ e)
  | fDict e => exact .fDict (s _ _ e)
section
variable {P : Program} {w : World} {K : PySem.W.Frag} {mg : Str → Option Value} {base : Heap}
/-- a method that may raise -/
theorem PromM.ofX {C m q : Str} {st : Stmt} {ps N : List Str} {sp : Sp} {k : Nat} (cl : Cls K (He.ga K C)) (me : Meth K (He.ga K C) m (He.ma K (He.ga K C) m)) (D : DefAtM K C m q st) (S : FnScope N ps (defScope st)) (len : ∀ vs H Q E, sp vs H Q E → vs.length = ps.length)
    (hb : ∀ (kV doc pm : Value) (an : Option Addr) (cdv ct : Value) (us : List Value), us.length = ps.length → bindArgs (PySem.W.fnOf m q (defArgs st) (defBody st) (defScope st) .none kV doc pm an cdv ct) ⟨us, []⟩ = pure (ps.zip us))
    (hbody : ∀ (f : Addr) (cdv : Value) (A : Around) (outer : List Env) (s : Shared) (H : Hp) (vs : List V) (Q : VK) (E : XK), Room k (A.deeper (envOfC q (defScope st) s.heap.objs.size f cdv)) → sp vs H Q E →
      ∃ t, PSs (cxOf (L2.CX P w) P w K mg base N q (defScope st) f cdv A outer s H E) (defBody st) t ∧ t { nx := fun _ H' => Q .non H', rt := Q } (start N vs) H) :
    PromM P w K mg base (L2.CX P w) (k + 1) C m ps sp := by
  obtain ⟨fd, F⟩ := D
  exact ⟨cl, me, fd, F.ok S len (fun cdv A outer s H vs Q E hr hs => hbody _ cdv A outer s H vs Q E hr hs), F.bindsN hb⟩
end
/-! ### a method called in the suite that handles an error -/
structure PromMP (P : Program) (w : World) (K : PySem.W.Frag) (mg : Str → Option Value) (base : Heap) (k : Nat) (C m : Str) (ps : List Str) (sp : Sp) : Prop where
  cl : Cls K (He.ga K C)
  me : Meth K (He.ga K C) m (He.ma K (He.ga K C) m)
  ex : ∃ fd, FnP P w K mg base k (He.ma K (He.ga K C) m) fd ps (fun _ => sp) ∧ Binds K fd ps []
theorem PromMP.of {P : Program} {w : World} {K : PySem.W.Frag} {mg : Str → Option Value} {base : Heap} {C m q : Str} {st : Stmt} {ps N : List Str} {sp : Sp} {k : Nat} (cl : Cls K (He.ga K C)) (me : Meth K (He.ga K C) m (He.ma K (He.ga K C) m)) (D : DefAtM K C m q st) (S : FnScope N ps (defScope st)) (len : ∀ vs H Q E, sp vs H Q E → vs.length = ps.length)
    (hb : ∀ (kV doc pm : Value) (an : Option Addr) (cdv ct : Value) (us : List Value), us.length = ps.length → bindArgs (PySem.W.fnOf m q (defArgs st) (defBody st) (defScope st) .none kV doc pm an cdv ct) ⟨us, []⟩ = pure (ps.zip us))
    (hbody : ∀ (f : Addr) (cdv : Value) (A : Around) (outer : List Env) (s : Shared) (H : Hp) (vs : List V) (Q : VK) (E : XK) (p : Addr × Obj), L2H.RoomH k (A.deeper (envOfC q (defScope st) s.heap.objs.size f cdv)) → (A.deeper (envOfC q (defScope st) s.heap.objs.size f cdv)).guards = some [] → sp vs H Q E →
      ∃ t, PSs (L2H.cxH CX0 P w K mg base N q (defScope st) f cdv A outer s H E p).nox (defBody st) t ∧ t { nx := fun _ H' => Q .non H', rt := Q } (start N vs) H) :
    PromMP P w K mg base (k + 1) C m ps sp := by
  obtain ⟨fd, F⟩ := D
  exact ⟨cl, me, fd, fnP_of F S (fun p vs H Q E h => len vs H Q E h) (fun cdv A outer s H vs Q E p hr hg hs => hbody _ cdv A outer s H vs Q E p hr hg hs), F.bindsN hb⟩
section
variable {X : Cx} {k : Nat} {C : Str} {ps : List Str} {sp : Sp} {a : Addr} {oe : Obj}
/-- repr(x) by an own __repr__, while an error is handled -/
theorem cr_reprOP (G : PromMP X.prog X.w X.K X.mg X.base k C "__repr__" ps sp) (gd : X.A.guards = some []) (hr : L2H.RoomH (k + 1) X.A) (hp : (a, oe) ∈ X.pn) (hs : X.stack = X.env :: X.outer) :
    CallR X (.builtin "repr") (fun xs H Q => ∃ p dx fs, xs = [.ref p] ∧ H p = some (.ins (He.ga X.K C) dx fs) ∧ sp [.ref p] H (fun v H2 => ∃ y : Str, v = .str y ∧ Q (.str y) H2) E0) := by
  intro pins s σ H xs us Q I r h
  obtain ⟨p, dx, fs, rfl, hpp, h⟩ := h
  obtain ⟨u, rfl, ru⟩ := vals1 r
  obtain rfl : u = Value.ref p := ru
  obtain ⟨m1, O1, _⟩ := ins_get I.hok hpp
  obtain ⟨od1, J1, _⟩ := O1.look
  obtain ⟨m, hF⟩ := I.fr
  obtain ⟨fd, F, b⟩ := G.ex
  have pin : L2H.PinOk X.stack H s (a, oe) := by
    obtain ⟨p1, p2, p3, p4, p5⟩ := I.pin (a, oe) (List.mem_append_left _ hp)
    refine ⟨p1, p2, fun z => ?_, p5⟩
    rw [hs] at z
    obtain ⟨en, hen, q⟩ := List.mem_filterMap.mp z
    rcases List.mem_cons.mp hen with z | z
    · subst z
      have nf := I.ok.stk
      rcases nf with nf | ⟨_, nf⟩
      · have nf : X.stack = X.outer := nf
        rw [hs] at nf
        exact absurd (congrArg List.length nf) (by simp)
      · have nf : X.env.frame = some X.env.locals := nf
        rw [nf] at q
        exact p3 (Option.some.inj q).symm
    · exact p4 (List.mem_filterMap.mpr ⟨en, z, q⟩)
  have e0 : Env0 X.prog X.w X.K X.mg X.base X.A.in1 X.stack s H := by
    have e := I.env0
    exact ⟨e.frames, e.mod, e.bs, e.bsz, e.funs, e.frf, e.hok, e.bare⟩
  have hl := F.len (a, oe) _ _ _ _ h
  refine PySem.W.repr_K (by have := hr.un; show X.A.units + 1 < cLine; omega) hF I.ok.mod.kin J1 G.me.at_ G.me.fn ?_
  have run : wpAny (model X.prog X.w) X.A.in1 (call (.ref (He.ma X.K (He.ga X.K C) "__repr__")) [.ref p]) (EP X pins σ (fun v H2 => ∃ y : Str, v = .str y ∧ Q (.str y) H2)) X.xe s := by
    refine wpAny_call (codeAny_mono (F.run X.A.in1 X.stack s H ⟨[.ref p], []⟩ [.ref p] [.ref p] _ E0 (a, oe) ⟨by have := hr.dp; show X.A.depth + 3 * k + 5 < _; omega, by have := hr.un; show X.A.units + 1 + 16 * k + 200 < _; omega⟩ gd pin e0 (by
      have := b s [.ref p] I.kIn (by simpa using hl)
      simpa using this) (.cons rfl .nil) h) fun rr s' hq => ?_)
    cases rr with
    | error e => exact False.elim hq
    | ok fl =>
      cases fl with
      | ret v =>
        obtain ⟨z, H', I', rz, q⟩ := I.after hq
        exact ⟨z, H', I', rz, q⟩
      | next => exact False.elim hq
      | brk => exact False.elim hq
      | cont => exact False.elim hq
  exact wpAny_mono run (fun v s' z => strBack_of z) fun _ _ z => z
end
/-! ### what follows a statement, said once -/
def tMid (t : TS) : TS := fun D σ H => ∃ P : L2.St → Hp → Prop, (∀ σ' H', P σ' H' → D.nx σ' H') ∧ t { D with nx := P } σ H
theorem ps_mid {X : Cx} {s : Stmt} {t : TS} (h : PS X s t) : PS X s (tMid t) := by
  refine ⟨fun pins s0 σ H D I ⟨P, hP, ht⟩ => wpAny_mono (h.run pins s0 σ H { D with nx := P } I ht) (fun fl s' z => ?_) fun _ _ z => z⟩
  cases fl with
  | next => exact let ⟨σ', H', J, q⟩ := z; ⟨σ', H', J, hP σ' H' q⟩
  | ret u => exact z
  | brk => exact z
  | cont => exact z
end Sz
/-! a lambda handed to a def that tells the number and the field of what it raises, or what it returns -/
namespace Sz
open PySem PySem.Spec PyProof.Rows L2
def TTold (K : PySem.W.Frag) (cs : List Value) (sp1 sp2 : Addr × Obj → Sp) : (XK → Hp → VK → Prop) → Hp → VK → Prop := fun tl H Q =>
  tl (fun cls d H' => PySem.W.exmAny K cls cs = some true ∧ ∀ a oe, Zc cls d oe → (∃ vs, oe.data = .fields vs) → H' a = none →
      sp1 (a, oe) [.ref a] H' (fun v H2 => sp2 (a, oe) [.ref a, v] H2 (fun u H3 => ∀ l, H3 l = none → Q (.ref l) (upd H3 l (.lst [v, u]))) E0) E0) H
    (fun v H' => ∃ z, Shw K H' v z ∧ ∀ l, H' l = none → Q (.ref l) (upd H' l (.lst [.int (-2), .str z])))
theorem told_gives {X : Cx} {x a t e i h1 h2 : Str} {st st1 st2 : Stmt} {A1 A2 A3 : Str} {c1 c2 c3 : Value} {k : Nat} {ps1 ps2 : List Str} {sp1 sp2 : Addr × Obj → Sp} {p1 p2 p3 p4 p5 p6 p7 p8 p9 p10 p11 p12 p13 p14 p15 p16 p17 p18 p19 p20 p21 p22 p23 p24 p25 p26 p27 p28 p29 : Pos} {x1 j1}
    (hN : [a, t, e, i].Nodup) (hbd : defBody st = [.Try [.Assign [.Name t p1] (.Call (.Name a p2) [] [] p3) p4] [.ExceptHandler (some (.Tuple [.Name A1 p5, .Name A2 p6, .Name A3 p7] x1 p8)) (some e)
        [.Assign [.Name i p9] (.Call (.Name h1 p10) [.Name e p11] [] p12) p13, .Return (some (.List [.Name i p14, .Call (.Name h2 p15) [.Name e p16, .Name i p17] [] p18] p19)) p20] p21] [] [] p22,
      .Return (some (.List [.UnaryOp .USub (.Constant (.int 2) j1 p23) p24, .Call (.Name "repr" p25) [.Name t p26] [] p27] p28)) p29])
    (ka : (defScope st).names.lookup a = some .local) (kt : (defScope st).names.lookup t = some .local) (ke : (defScope st).names.lookup e = some .local) (ki : (defScope st).names.lookup i = some .local) (g1 : (defScope st).names.lookup A1 = some .globalImplicit) (g2 : (defScope st).names.lookup A2 = some .globalImplicit) (g3 : (defScope st).names.lookup A3 = some .globalImplicit)
    (gh1 : (defScope st).names.lookup h1 = some .globalImplicit) (gh2 : (defScope st).names.lookup h2 = some .globalImplicit) (gr : (defScope st).names.lookup ("repr" : Str) = some .globalImplicit) (m1 : X.mg A1 = some c1) (m2 : X.mg A2 = some c2) (m3 : X.mg A3 = some c3) (mr : X.mg "repr" = none)
    (G1 : PromP X.prog X.w X.K X.mg X.base k h1 st1 ps1 sp1) (G2 : PromP X.prog X.w X.K X.mg X.base k h2 st2 ps2 sp2) (gd : X.A.guards = some []) (hr : Room (k + 1) X.A)
    (d1 : (A1 == ("__debug__" : Str)) = false := by decide) (d2 : (A2 == ("__debug__" : Str)) = false := by decide) (d3 : (A3 == ("__debug__" : Str)) = false := by decide) (d4 : (h1 == ("__debug__" : Str)) = false := by decide) (d4' : (h2 == ("__debug__" : Str)) = false := by decide)
    (d5 : (e == ("__debug__" : Str)) = false := by decide) (d6 : (e == ("__classdict__" : Str)) = false := by decide) (d7 : (t == ("__debug__" : Str)) = false := by decide) (d8 : (t == ("__classdict__" : Str)) = false := by decide)
    (d9 : (i == ("__debug__" : Str)) = false := by decide) (d10 : (i == ("__classdict__" : Str)) = false := by decide) :
    Gives X [a, t, e, i] x st a (TTold X.K [c1, c2, c3] sp1 sp2) := by
  intro g cdg f c' s H Q tl act hc hq
  rw [hbd]
  have hu : ∀ env, (X.A.deeper env).units + 64 < cLine := fun env => by have := (hr.deeper env).un; omega
  refine ⟨_, pss_cons (ps_tryA (X := (cxOf C8.CX0 X.prog X.w X.K X.mg X.base [a, t, e, i] x (defScope st) g cdg X.A X.stack s H C8.E0).nox) (Wout := fun _ _ _ _ => False)
    (tb := fun W D σ H => ∃ Ech : XK, (∀ cls d σ' H', Ech cls d H' → σ'.length = 4 → W cls d σ' H') ∧ σ[0]? = some (some (.ref f)) ∧ H c' = some (LamX.CodeO c' (X.env.qual ++ "<lambda>")) ∧ ∃ K : VK, (∀ v H', K v H' → D.nx (σ.set 1 (some v)) H') ∧ tl Ech H K)
    rfl rfl hN L2.takes0 (fun W pn xe tk _ => ?_)
    (ClOk.cons (i := 2) (test_tup g1 g2 g3 m1 m2 m3 d1 d2 d3) rfl ke (fun a' oe cls d pn _ _ =>
      pss_cons (ps_set (i := 3) hN rfl (.inl ki) (pe_weak (pe_callE G1 gd ⟨?_, ?_⟩ gh1 rfl (pa_cons (pe_var (i := 2) rfl (.inl ke) d5 d6) pa_nil) d4)))
        (pss_one (ps_ret (pe_lst (pa_cons (pe_var (i := 3) rfl (.inl ki) d9 d10) (pa_cons (pe_weak (pe_callE G2 gd ⟨?_, ?_⟩ gh2 rfl (pa_cons (pe_var (i := 2) rfl (.inl ke) d5 d6) (pa_cons (pe_var (i := 3) rfl (.inl ki) d9 d10) pa_nil)) d4')) pa_nil)))))) .nil))
    (pss_one (ps_ret (pe_lst (pa_cons (pe_un un_neg pe_int) (pa_cons (pe_callB (cr_reprW gd (hu _)) gr mr (by decide +kernel) (pa_cons (pe_var (i := 1) rfl (.inl kt) d7 d8) pa_nil)) pa_nil))))), ?_⟩
  · constructor
    intro pins s' σ H' D I ⟨Ech, hW, h1, h2, K, hK, h3⟩
    have hp := act _ pn xe Ech p2 p3 (takes_len tk) (fun cls d σ' H' z hl => hW cls d σ' H' z hl)
    exact (pss_one (ps_set (i := 1) (pos := p4) hN rfl (.inl kt) (pe_weak hp))).run pins s' σ H' D I ⟨K, hK, h1, h2, h3⟩
  · exact (hr.deeper _).dp
  · exact (hr.deeper _).un
  · exact (hr.deeper _).dp
  · exact (hr.deeper _).un
  · refine ⟨_, fun cls d σ' H' z hl => ?_, rfl, hc, _, fun v H' z => ?_, hq⟩
    rotate_left
    · obtain ⟨z, hz, k⟩ := z
      exact ⟨_, rfl, ⟨v, rfl, v, z, rfl, hz, (by show 2 ≤ sizeLine; decide), fun l hl => k l hl⟩⟩
    obtain ⟨z1, z2⟩ := z
    refine ⟨true, z1, fun _ a' oe hz hv na => ?_, fun z => Bool.noConfusion z⟩
    have e0 : (σ'.set 2 (some (.ref a')))[2]? = some (some (.ref a')) := by
      rw [List.getElem?_set_self (by omega)]
    refine ⟨fun v H2 => sp2 (a', oe) [.ref a', v] H2 (fun u H3 => ∀ l, H3 l = none → Q (.ref l) (upd H3 l (.lst [v, u]))) E0, fun v H2 z => ?_, ⟨_, e0, z2 a' oe hz hv na⟩⟩
    have e1 : ((σ'.set 2 (some (.ref a'))).set 3 (some v))[3]? = some (some v) := by
      rw [List.getElem?_set_self (by rw [List.length_set]; omega)]
    have e2 : ((σ'.set 2 (some (.ref a'))).set 3 (some v))[2]? = some (some (.ref a')) := by
      rw [List.getElem?_set_ne (by decide)]
      exact e0
    refine ⟨_, e1, fun u H3 => ∀ l, H3 l = none → Q (.ref l) (upd H3 l (.lst [v, u])), fun u H3 z3 => ?_, _, e2, _, e1, z⟩
    exact ⟨(by show 2 ≤ sizeLine; decide), fun l hl => z3 l hl⟩
end Sz
/-! a lambda handed to a def whose clauses tell the word, the field and the bases of what it raises -/
namespace Sz
open PySem PySem.Spec PyProof.Rows L2
/-- a clause: the class, its field, its own base, its built-in base -/
structure Cl1 where
  w : Str
  f : Str
  B : Str
  b : String
deriving DecidableEq
structure OutTab (K : PySem.W.Frag) (cs : List Cl1) : Prop where
  exc : ∀ c ∈ cs, ExcC K (He.ga K c.w)
  xf : ∀ c ∈ cs, XfC K (He.ga K c.w)
  ex : ∀ c ∈ cs, ∀ c' ∈ cs, PySem.W.exmAny K (.ref (He.ga K c.w)) [.ref (He.ga K c'.w)] = some (decide (c = c'))
  k1 : ∀ c ∈ cs, PySem.W.kitOne K (.ref (He.ga K c.w)) (.ref (He.ga K c.B)) = some true
  k2 : ∀ c ∈ cs, PySem.W.kitOne K (.ref (He.ga K c.w)) (.type c.b) = some true
  no : ∀ c ∈ cs, PySem.W.findIn K (.ref (He.ga K c.w)) c.f = some none
def outB (K : PySem.W.Frag) (cs : List Cl1) (c : Cl1) : Bool := excCB K (He.ga K c.w) && (cs.all (fun c' => decide (PySem.W.exmAny K (.ref (He.ga K c.w)) [.ref (He.ga K c'.w)] = some (decide (c = c')))) &&
  (decide (PySem.W.kitOne K (.ref (He.ga K c.w)) (.ref (He.ga K c.B)) = some true) && (decide (PySem.W.kitOne K (.ref (He.ga K c.w)) (.type c.b) = some true) && He.eqO (PySem.W.findIn K (.ref (He.ga K c.w)) c.f) (some none))))
theorem out_ok {K : PySem.W.Frag} {cs : List Cl1} (h : cs.all (outB K cs) = true) : OutTab K cs := by
  have g : ∀ c ∈ cs, outB K cs c = true := fun c hc => List.all_eq_true.mp h c hc
  refine ⟨fun c hc => (excCB_ok (He.ba (g c hc)).1).1, fun c hc => (excCB_ok (He.ba (g c hc)).1).2, fun c hc c' hc' => ?_, fun c hc => ?_, fun c hc => ?_, fun c hc => ?_⟩
  · exact of_decide_eq_true (List.all_eq_true.mp (He.ba (He.ba (g c hc)).2).1 c' hc')
  · exact of_decide_eq_true (He.ba (He.ba (He.ba (g c hc)).2).2).1
  · exact of_decide_eq_true (He.ba (He.ba (He.ba (He.ba (g c hc)).2).2).2).1
  · exact He.eqO_ok (He.ba (He.ba (He.ba (He.ba (g c hc)).2).2).2).2
def clO (K : PySem.W.Frag) (i : Nat) (c : Cl1) : Clause := ⟨[.ref (He.ga K c.w)], i, fun a oe _ _ => tRet (tLst (tCons (tC (.str c.w)) (tCons (tXfP K a oe c.f (tVar i)) (tCons (tAndV (tCB (rIsP K a oe) (tCons (tVar i) (tCons (tC (.ref (He.ga K c.B))) tNil))) (tCB (rIsP K a oe) (tCons (tVar i) (tCons (tC (.ty c.b)) tNil)))) tNil))))⟩
theorem wcl_out {K : PySem.W.Frag} {cs : List Cl1} (T : OutTab K cs) {Wout : WX} {D : Ends} {i : Nat} {σ : L2.St} {H : Hp} {c : Cl1} {dd : Addr} {v : V} (hc : c ∈ cs) (hd : H dd = some (.xd [(c.f, v)])) (hi : i < σ.length)
    (k : ∀ l, H l = none → D.rt (.ref l) (upd H l (.lst [.str c.w, v, .bl true]))) : ∀ cs' : List Cl1, (∀ x ∈ cs', x ∈ cs) → c ∈ cs' → wCl K Wout D (cs'.map (clO K i)) (.ref (He.ga K c.w)) (some dd) σ H
  | [], _, h => by cases h
  | x :: r, hs, h => by
    have hx := hs x (.head _)
    refine ⟨decide (c = x), T.ex c hc x hx, fun e a oe hz hv na => ?_, fun e => ?_⟩
    · have e : c = x := of_decide_eq_true e
      subst e
      have hg : (σ.set i (some (.ref a)))[i]? = some (some (.ref a)) := by
        rw [List.getElem?_set_self hi]
      have hdn : oe.dict = none ∨ ∃ (d : Addr) (fs : List (Str × V)), oe.dict = some d ∧ H d = some (.xd fs) := .inr ⟨dd, _, hz.2, hd⟩
      have lk : ([(c.f, v)] : List (Str × V)).lookup c.f = some v := by simp
      refine ⟨_, hg, rfl, _, dd, _, v, hz.1, hz.2, hv, T.xf c hc, T.no c hc, hd, lk, ?_⟩
      refine ⟨_, hg, .ref (He.ga K c.B), _, _, true, rfl, fun _ r => r, hz.1, T.exc c hc, hv, hdn, T.k1 c hc, _, rfl, ?_⟩
      rw [if_pos rfl]
      exact ⟨_, hg, .ty c.b, _, _, true, rfl, fun _ r => r, hz.1, T.exc c hc, hv, hdn, T.k2 c hc, (by show 3 ≤ sizeLine; decide), fun l hl => k l hl⟩
    · have ne : c ≠ x := of_decide_eq_false e
      exact wcl_out T hc hd hi k r (fun y hy => hs y (.tail _ hy)) (by
        cases h with
        | head => exact absurd rfl ne
        | tail _ h => exact h)
def TOut (K : PySem.W.Frag) (cs : List Cl1) : (XK → Hp → VK → Prop) → Hp → VK → Prop := fun tl H Q =>
  tl (fun cls d H' => ∃ c ∈ cs, cls = .ref (He.ga K c.w) ∧ ∃ dd v, d = some dd ∧ H' dd = some (.xd [(c.f, v)]) ∧ ∀ l, H' l = none → Q (.ref l) (upd H' l (.lst [.str c.w, v, .bl true]))) H
    (fun v H' => ∀ l, H' l = none → Q (.ref l) (upd H' l (.lst [.str "had", v])))
theorem out_gives {X : Cx} {x a t e : Str} {st : Stmt} {cs : List Cl1} {h0 : ExceptHandler} {hds : List ExceptHandler} {p1 p2 p3 p4 p5 p6 p7 p8 p9 : Pos} {j1}
    (hN : [a, t, e].Nodup) (hbd : defBody st = [.Try [.Assign [.Name t p1] (.Call (.Name a p2) [] [] p3) p4] (h0 :: hds) [] [] p5, .Return (some (.List [.Constant (.str "had") j1 p6, .Name t p7] p8)) p9])
    (ka : (defScope st).names.lookup a = some .local) (kt : (defScope st).names.lookup t = some .local) (T : OutTab X.K cs)
    (hcl : ∀ (g : Addr) (cdg : Value) (s : Shared) (H : Hp), ClOk (cxOf C8.CX0 X.prog X.w X.K X.mg X.base [a, t, e] x (defScope st) g cdg X.A X.stack s H C8.E0).nox (h0 :: hds) (cs.map (clO X.K 2)))
    (d7 : (t == ("__debug__" : Str)) = false := by decide) (d8 : (t == ("__classdict__" : Str)) = false := by decide) :
    Gives X [a, t, e] x st a (TOut X.K cs) := by
  intro g cdg f c' s H Q tl act hc hq
  rw [hbd]
  refine ⟨_, pss_cons (ps_tryA (X := (cxOf C8.CX0 X.prog X.w X.K X.mg X.base [a, t, e] x (defScope st) g cdg X.A X.stack s H C8.E0).nox) (Wout := fun _ _ _ _ => False)
    (tb := fun W D σ H => ∃ Ech : XK, (∀ cls d σ' H', Ech cls d H' → σ'.length = 3 → W cls d σ' H') ∧ σ[0]? = some (some (.ref f)) ∧ H c' = some (LamX.CodeO c' (X.env.qual ++ "<lambda>")) ∧ ∃ K : VK, (∀ v H', K v H' → D.nx (σ.set 1 (some v)) H') ∧ tl Ech H K)
    rfl rfl hN L2.takes0 (fun W pn xe tk _ => ?_) (hcl g cdg s H))
    (pss_one (ps_ret (pe_lst (pa_cons pe_str (pa_cons (pe_var (i := 1) rfl (.inl kt) d7 d8) pa_nil))))), ?_⟩
  · constructor
    intro pins s' σ H' D I ⟨Ech, hW, h1, h2, K, hK, h3⟩
    have hp := act _ pn xe Ech p2 p3 (takes_len tk) (fun cls d σ' H' z hl => hW cls d σ' H' z hl)
    exact (pss_one (ps_set (i := 1) (pos := p4) hN rfl (.inl kt) (pe_weak hp))).run pins s' σ H' D I ⟨K, hK, h1, h2, h3⟩
  · refine ⟨_, fun cls d σ' H' z hl => ?_, rfl, hc, _, fun v H' z => ?_, hq⟩
    rotate_left
    · exact ⟨v, rfl, (by show 2 ≤ sizeLine; decide), fun l hl => z l hl⟩
    obtain ⟨c, hcm, rfl, dd, v, rfl, hd, k⟩ := z
    exact wcl_out T hcm hd (by omega) k cs (fun _ h => h) hcm
end Sz
/-! constructors that raise -/
namespace Sz
open PySem PySem.Spec PyProof.Rows L2
section
variable {P : Program} {w : World} {K : PySem.W.Frag} {mg : Str → Option Value} {base : Heap}
theorem PromC.starX {C q p0 p1 pv : Str} {st : Stmt} {N : List Str} {sp sp0 : Sp} {k : Nat} (mk : Mk K (He.ga K C) (He.ma K (He.ga K C) "__init__")) (hm : mg C = some (.ref (He.ga K C))) (D : DefAtM K C "__init__" q st) (S : FnScope N [p0, p1, pv] (defScope st))
    (h0 : ∀ (kV doc pm : Value) (an : Option Addr) (cdv ct a b : Value), bindArgs (PySem.W.fnOf "__init__" q (defArgs st) (defBody st) (defScope st) .none kV doc pm an cdv ct) ⟨[a, b], []⟩ = (newTuple [] >>= fun t => pure [(p0, a), (p1, b), (pv, t)]))
    (h1 : ∀ (kV doc pm : Value) (an : Option Addr) (cdv ct a b r : Value) (rs : List Value), bindArgs (PySem.W.fnOf "__init__" q (defArgs st) (defBody st) (defScope st) .none kV doc pm an cdv ct) ⟨a :: b :: r :: rs, []⟩ = (newTuple (r :: rs) >>= fun t => pure [(p0, a), (p1, b), (pv, t)]))
    (hbody : ∀ (f : Addr) (cdv : Value) (A : Around) (outer : List Env) (s : Shared) (H : Hp) (vs : List V) (Q : VK) (E : XK), Room k (A.deeper (envOfC q (defScope st) s.heap.objs.size f cdv)) → sp0 vs H Q E →
      ∃ t, PSs (cxOf (L2.CX P w) P w K mg base N q (defScope st) f cdv A outer s H E) (defBody st) t ∧ t { nx := fun _ H' => Q .non H', rt := Q } (start N vs) H)
    (hsp : ∀ vs H Q E, sp vs H Q E → ∃ v rest, vs = v :: rest ∧ rest.length ≤ sizeLine ∧ ∀ x dx p, H x = none → H dx = none → dx ≠ x → p ≠ x → p ≠ dx → H p = none →
      sp0 [.ref x, v, .ref p] (upd (upd (upd H dx (.own x)) x (.ins (He.ga K C) dx [])) p (.tup rest)) (fun u H2 => u = .non ∧ Q (.ref x) H2) E) :
    PromC P w K mg base (L2.CX P w) (k + 1) C sp := by
  obtain ⟨fd, F⟩ := D
  obtain ⟨oc, od, dV, kV, doc, pm, an, cdv, ct, osl, rfl, lk, hcd, hD, hK⟩ := F.ex
  rcases hD with ⟨_, rfl⟩ | ⟨e, _⟩
  · refine ⟨mk, hm, _, StX.fn_star (ps := [p0, p1]) (pv := pv) (sp := sp0) lk hcd S StX.cxUp (StX.bind_star2 (B := fun us => bindArgs _ ⟨us, []⟩) (fun a b => h0 kV doc pm an cdv ct a b) fun a b r rs => h1 kV doc pm an cdv ct a b r rs) (fun A outer s H vs Q E hr hs => hbody _ cdv A outer s H vs Q E hr hs), fun vs H Q E hs x dx hx hdx ne => ?_⟩
    obtain ⟨v, rest, rfl, hl, hq⟩ := hsp vs H Q E hs
    refine ⟨[.ref x, v], rest, rfl, rfl, hl, fun p hp => ?_⟩
    have nx : p ≠ x := fun z => by rw [z, upd_same] at hp; cases hp
    rw [upd_ne nx] at hp
    have nd : p ≠ dx := fun z => by rw [z, upd_same] at hp; cases hp
    rw [upd_ne nd] at hp
    exact hq x dx p hx hdx ne nx nd hp
  · exact absurd rfl e
theorem PromC.plainX {C q : Str} {st : Stmt} {N ps : List Str} {sp sp0 : Sp} {k : Nat} (mk : Mk K (He.ga K C) (He.ma K (He.ga K C) "__init__")) (hm : mg C = some (.ref (He.ga K C))) (D : DefAtM K C "__init__" q st) (S : FnScope N ps (defScope st))
    (len : ∀ vs H Q E, sp0 vs H Q E → vs.length = ps.length)
    (hb : ∀ (kV doc pm : Value) (an : Option Addr) (cdv ct : Value) (us : List Value), us.length = ps.length → bindArgs (PySem.W.fnOf "__init__" q (defArgs st) (defBody st) (defScope st) .none kV doc pm an cdv ct) ⟨us, []⟩ = pure (ps.zip us))
    (hbody : ∀ (f : Addr) (cdv : Value) (A : Around) (outer : List Env) (s : Shared) (H : Hp) (vs : List V) (Q : VK) (E : XK), Room k (A.deeper (envOfC q (defScope st) s.heap.objs.size f cdv)) → sp0 vs H Q E →
      ∃ t, PSs (cxOf (L2.CX P w) P w K mg base N q (defScope st) f cdv A outer s H E) (defBody st) t ∧ t { nx := fun _ H' => Q .non H', rt := Q } (start N vs) H)
    (hsp : ∀ vs H Q E, sp vs H Q E → ∀ x dx, H x = none → H dx = none → dx ≠ x → sp0 (.ref x :: vs) (upd (upd H dx (.own x)) x (.ins (He.ga K C) dx [])) (fun u H2 => u = .non ∧ Q (.ref x) H2) E) :
    PromC P w K mg base (L2.CX P w) (k + 1) C sp := by
  obtain ⟨fd, F⟩ := D
  have F1 : FnOk P w K mg base (L2.CX P w) (k + 1) (He.ma K (He.ga K C) "__init__") fd ps sp0 := F.ok S len (fun cdv A outer s H vs Q E hr hs => hbody _ cdv A outer s H vs Q E hr hs)
  refine ⟨mk, hm, _, F1.raw (F.bindsN hb) .nil, fun vs H Q E hs x dx hx hdx ne => ?_⟩
  rw [List.append_nil]
  exact hsp vs H Q E hs x dx hx hdx ne
end
end Sz
/-! reading texts: the kinds among the keys, words of figures -/
namespace Sz
open PySem PySem.Spec PyProof.Rows L2
def kinds7 : List Str := ["plus", "told", "whole", "pieces", "cut", "coded", "filled"]
def keysB (K : PySem.W.Frag) (D : Addr) : Bool := match K.lookup D with
  | some ⟨_, _, .dict es _, _⟩ => es.toList.all fun e => (kinds7.any fun k => e.key.isStr k) && !e.refKey
  | _ => false
theorem isStr_uniq {v : Value} {a b : Str} (h : v.isStr a = true) (g : v.isStr b = true) : a = b := by
  cases v with
  | str x t =>
    have h : (x == a) = true := h
    have g : (x == b) = true := g
    rw [← beq_iff_eq.mp h, ← beq_iff_eq.mp g]
  | _ => cases h
theorem keysB_ok {K : PySem.W.Frag} {D : Addr} (h : keysB K D = true) {z : Str} (hz : z ∉ kinds7) : PySem.W.nsIn K D z = some none := by
  unfold keysB at h
  unfold PySem.W.nsIn
  split at h
  · rename_i c dd es n sl e
    rw [e]
    have key : ∀ x ∈ es.toList, (kinds7.any fun k => x.key.isStr k) = true ∧ x.refKey = false := fun x hx => by
      have := List.all_eq_true.mp h x hx
      rw [Bool.and_eq_true, Bool.not_eq_true'] at this
      exact this
    have h1 : es.toList.find? (·.key.isStr z) = none := by
      rw [List.find?_eq_none]
      intro x hx hs
      obtain ⟨k, hk, ks⟩ := List.any_eq_true.mp (key x hx).1
      exact hz (isStr_uniq hs ks ▸ hk)
    have h2 : es.toList.any (·.refKey) = false := by
      rw [List.any_eq_false]
      intro x hx
      rw [(key x hx).2]
      exact Bool.false_ne_true
    simp only [h1, h2]
    rfl
  · cases h
/-! ### words of figures -/
def dig (c : Nat) : Bool := decide (48 ≤ c ∧ c ≤ 57)
def digV (cs : List Nat) : Int := cs.foldl (fun (a : Int) (c : Nat) => 10 * a + ((c : Int) - 48)) 0
/-- the integer that a word tells, -1 if it tells none -/
def numV (s : Str) : Int := if s = "" then -1 else if s.cps.toList[0]? = some 48 ∧ s ≠ "0" then -1 else if s.cps.toList.all dig = true then digV s.cps.toList else -1
theorem digV_snoc (cs : List Nat) (c : Nat) : digV (cs ++ [c]) = 10 * digV cs + ((c : Int) - 48) := by
  unfold digV
  rw [List.foldl_append]
  rfl
def tens : Str := "0123456789"
theorem tens_dig : ∀ c : Fin 128, decide (c.val ∈ tens.cps.toList) = dig c.val := by decide +kernel
theorem tens_mem (c : Nat) : decide (c ∈ tens.cps.toList) = dig c := by
  by_cases h : c < 128
  · exact tens_dig ⟨c, h⟩
  · have h1 : c ∉ tens.cps.toList := fun hc => by
      have key : ∀ x ∈ tens.cps.toList, x < 128 := by decide +kernel
      exact h (key c hc)
    rw [decide_eq_false h1]
    unfold dig
    rw [decide_eq_false (by omega)]
theorem tens_at : ∀ c : Fin 10, Builtin.Str.occurrences tens ⟨#[48 + c.val]⟩ 0 tens.length 1 = [c.val] := by decide +kernel
/-! ### for and comprehensions over the signs of a text -/
theorem for_str {z : Str} {g : TG} {tb : TS} {D : Ends} {σ : L2.St} {H : Hp} (Pv : Nat → L2.St → Hp → Prop) (h0 : Pv 0 σ H)
    (hs : ∀ i c σ H, z.cps.toList[i]? = some c → Pv i σ H → g (.str ⟨#[c]⟩) σ H fun σ2 H2 => tb { D with nx := Pv (i + 1), ct := Pv (i + 1), bk := D.nx } σ2 H2) (hd : ∀ σ H, Pv z.length σ H → D.nx σ H) :
    ∃ W : Nat → Nat → L2.St → Hp → Prop, (∃ m, W 0 m σ H) ∧ ∀ i m σ H, W i m σ H →
      ((Its z).stop i H ∧ D.nx σ H) ∨ ((Its z).go i H ∧ ∃ N : L2.St → Hp → Prop, (∀ σ' H', N σ' H' → ∃ m', m' < m ∧ W (i + 1) m' σ' H') ∧ ∀ x H', (Its z).yld i H x H' → g x σ H' fun σ2 H2 => tb { D with nx := N, ct := N, bk := D.nx } σ2 H2) := by
  refine ⟨fun i m σ H => m = z.cps.size - i ∧ i ≤ z.cps.size ∧ Pv i σ H, ⟨z.cps.size, by simp, Nat.zero_le _, h0⟩, ?_⟩
  rintro i m σ H ⟨rfl, hi, p⟩
  by_cases hlt : i < z.cps.size
  · refine .inr ⟨hlt, Pv (i + 1), fun σ' H' p' => ⟨z.cps.size - (i + 1), by omega, rfl, hlt, p'⟩, fun x H' y => ?_⟩
    obtain ⟨e, c, hc, y⟩ := y
    subst e
    subst y
    exact hs i c σ _ (by simpa using hc) p
  · have e : i = z.cps.size := by omega
    subst e
    exact .inl ⟨Nat.le_refl _, hd σ H p⟩
theorem lc_str {z : Str} {g : TG} {tt : TT} {te : TE} {vs : List Nat} {σ : L2.St} {H1 : Hp} {D : Addr} {Qd : Hp → Prop} (Pv : Nat → Hp → Prop) (h0 : Pv 0 (upd H1 D (.lst [])))
    (hs : ∀ i c H, z.cps.toList[i]? = some c → Pv i H → g (.str ⟨#[c]⟩) (wipe σ vs) H fun σ2 H2 => wipe σ2 vs = wipe σ vs ∧ tt σ2 H2 fun b H3 =>
      if b = true then te σ2 H3 fun y H4 => ∃ acc, H4 D = some (.lst acc) ∧ acc.length < sizeLine ∧ Pv (i + 1) (upd H4 D (.lst (acc ++ [y]))) else Pv (i + 1) H3) (hd : ∀ H, Pv z.length H → Qd H) :
    ∃ W : Nat → Nat → Hp → Prop, (∃ m, W 0 m (upd H1 D (.lst []))) ∧ ∀ i m H, W i m H →
      ((Its z).stop i H ∧ Qd H) ∨ ((Its z).go i H ∧ ∃ Nx : Hp → Prop, (∀ H', Nx H' → ∃ m', m' < m ∧ W (i + 1) m' H') ∧ ∀ x H', (Its z).yld i H x H' → g x (wipe σ vs) H' fun σ2 H2 => wipe σ2 vs = wipe σ vs ∧ tt σ2 H2 fun b H3 =>
        if b = true then te σ2 H3 fun y H4 => ∃ acc, H4 D = some (.lst acc) ∧ acc.length < sizeLine ∧ Nx (upd H4 D (.lst (acc ++ [y]))) else Nx H3) := by
  refine ⟨fun i m H => m = z.cps.size - i ∧ i ≤ z.cps.size ∧ Pv i H, ⟨z.cps.size, by simp, Nat.zero_le _, h0⟩, ?_⟩
  rintro i m H ⟨rfl, hi, p⟩
  by_cases hlt : i < z.cps.size
  · refine .inr ⟨hlt, Pv (i + 1), fun H' p' => ⟨z.cps.size - (i + 1), by omega, rfl, hlt, p'⟩, fun x H' y => ?_⟩
    obtain ⟨e, c, hc, y⟩ := y
    subst e
    subst y
    exact hs i c _ (by simpa using hc) p
  · have e : i = z.cps.size := by omega
    subst e
    exact .inl ⟨Nat.le_refl _, hd H p⟩
section
variable {X : Cx}
def rIndexS : V → List V → Hp → VK → Prop := fun x xs H Q => ∃ a b i rest, x = .str a ∧ xs = [.str b] ∧ Builtin.Str.occurrences a b 0 a.length 1 = i :: rest ∧ Q (.int (i : Nat)) H
theorem pe_sindex {o e : Expr} {to te : TE} {apos pos : Pos} (ho : PE X o to) (he : PE X e te) (hs : starEach [e] X.env = [(false, eval e X.env)] := by rfl) (hbase : attributeBase o "index" X.env (eval o X.env) = eval o X.env := by rfl) (hline : (apos.endLine == pos.line) = true := by rfl) :
    PE X (.Call (.Attribute o "index" apos) [e] [] pos) (tM1 rIndexS to te) :=
  pe_m1 F.slot_str_index F.type_str_index mt_sindex ho he hs hbase hline
end
/-! ### what a word of figures is, sign by sign -/
theorem one_eq {c d : Nat} : (⟨#[c]⟩ : Str) = ⟨#[d]⟩ ↔ c = d := ⟨fun h => by cases h; rfl, fun h => by rw [h]⟩
theorem numV_empty : numV "" = -1 := rfl
theorem numV_zero {s : Str} (h : s ≠ "") (h0 : s.cps.toList[0]? = some 48) (h1 : s ≠ "0") : numV s = -1 := by
  unfold numV
  rw [if_neg h, if_pos ⟨h0, h1⟩]
theorem numV_all {s : Str} (h : s ≠ "") (h0 : ¬ (s.cps.toList[0]? = some 48 ∧ s ≠ "0")) (ha : ∀ c ∈ s.cps.toList, dig c = true) : numV s = digV s.cps.toList := by
  unfold numV
  rw [if_neg h, if_neg h0, if_pos (List.all_eq_true.mpr ha)]
theorem numV_not {s : Str} {c : Nat} (h : c ∈ s.cps.toList) (hc : dig c = false) : numV s = -1 := by
  unfold numV
  split
  · rfl
  split
  · rfl
  split
  · rename_i z
    rw [List.all_eq_true.mp z c h] at hc
    cases hc
  · rfl
end Sz
/-! x in a list whose items have own ==: every turn may make objects -/
namespace PySem.SeqAt
open PySem PySem.Spec PySem.Calls PyProof.Rows
open MeetsSeq MeetsSeq2 MeetsSeq3 SeqRoads2
theorem contains_loopG {prog : Program} {w : World} {E : Value → Shared → Prop} {A : Around} {R : Result → Shared → Prop} {l : Addr} {N : Nat} {x : Value} (e : Nat → Bool) (J : Shared → Prop)
    (hJ : ∀ s, J s → ∃ (items : Array Value) (n : Nat) (dd : Option Addr) (sl : Array (Option Value)), s.heap.get? l = some { cls := .type "list", dict := dd, data := .seq items n, slots := sl } ∧ items.size = N ∧
      ∀ i y, items[i]? = some y → wpAny (model prog w) A.in1 (eqBool y x) (fun b s' => b = e i ∧ J s') E s) (hE : ∀ er s, E er s → R (.error er) s) (k : Nat) :
    ∀ (i : Nat) (s : Shared), N - i = k → J s → (∀ s, J s → R (.ok (.ret (.bool ((List.range' i k).any e)))) s) →
      wpAny (model prog w) A.in1 (Builtin.«list.__contains__.loop» ⟨[.ref l, x, rawInt i], []⟩) (fun fin s' => match fin with | .done f => R (.ok f) s' | .again c' => c'.quiet = true ∧ codeAny (model prog w) A c' R s') (fun e s' => R (.error e) s') s := by
  induction k with
  | zero =>
    intro i s hk j h
    obtain ⟨items, n, dd, sl, hl, hN, _⟩ := hJ s j
    have h := h s j
    obtain ⟨hp, g, d, tk, os⟩ := s
    wp_walk using PySem.AutoSeq1.wpAny_loadPart' hl
    have hi : items[((i : Nat) : Int).toNat]? = none := by simp; omega
    rw [hi]
    wp_walk
    exact h
  | succ k ih =>
    intro i s hk j h
    obtain ⟨items, n, dd, sl, hl, hN, turn⟩ := hJ s j
    have hlt : i < items.size := by omega
    have t := turn i items[i] (by simp [hlt])
    obtain ⟨hp, g, d, tk, os⟩ := s
    wp_walk using PySem.AutoSeq1.wpAny_loadPart' hl
    have hi : items[((i : Nat) : Int).toNat]? = some items[i] := by simp [hlt]
    rw [List.range'_succ, List.any_cons] at h
    rw [hi]
    refine wpAny_bind (wpAny_mono t (fun b s' hb => ?_) hE)
    obtain ⟨rfl, j'⟩ := hb
    cases hb : e i with
    | true =>
      rw [hb] at h
      have h := h s' j'
      obtain ⟨hp, g, d, tk, os⟩ := s'
      wp_walk
      exact h
    | false =>
      rw [hb] at h
      have hc : ((i : Int) + 1) = ((i + 1 : Nat) : Int) := by push_cast; rfl
      have h2 := ih (i + 1) s' (by omega) j' (fun s js => by simpa using h s js)
      obtain ⟨hp, g, d, tk, os⟩ := s'
      wp_walk
      rw [hc]
      exact ⟨plainId_quiet plain_contains_loop _, codeAny_builtin entry_contains_loop (by
        rw [Around.under_plainId plain_contains_loop _]
        exact h2)⟩
theorem in_listG {prog : Program} {w : World} {E : Value → Shared → Prop} {A : Around} {s : Shared} {l : Addr} {N : Nat} {x : Value} {Q : Value → Shared → Prop} (e : Nat → Bool) (J : Shared → Prop)
    (hJ : ∀ s, J s → ∃ (items : Array Value) (n : Nat) (dd : Option Addr) (sl : Array (Option Value)), s.heap.get? l = some { cls := .type "list", dict := dd, data := .seq items n, slots := sl } ∧ items.size = N ∧
      ∀ i y, items[i]? = some y → wpAny (model prog w) A.in1 (eqBool y x) (fun b s' => b = e i ∧ J s') E s)
    (j : J s) (h : ∀ s, J s → Q (.bool ((List.range' 0 N).any e)) s) : wpAny (model prog w) A (compareOp .In x (.ref l)) Q E s := by
  show wpAny _ A (do return .bool (← contains (.ref l) x)) Q E s
  have hT : s.TypeIs (.ref l) "list" := by
    obtain ⟨items, n, dd, sl, hl, _⟩ := hJ s j
    exact ⟨_, hl, rfl⟩
  refine wpAny_bind (PySem.wpAny_contains_slot hT F.slot_list_contains (wpAny_mono (call_meetsIn (S := fun A' R s' => A' = A ∧ R = wants (fun v s' => ∃ b, v = .bool b ∧ Q (.bool b) s') E ∧ J s') F.slot_list_contains hT F.entry_list_contains (F.args_list_contains_2 _ _) ?_ ⟨rfl, rfl, j⟩) (fun v s' hv => ?_) fun _ _ e => e))
  · rintro A' R s' ⟨rfl, rfl, j'⟩
    obtain ⟨items, n, dd, sl, hl, hN, _⟩ := hJ s' j'
    have go := contains_loopG (R := wants (fun v s' => ∃ b, v = .bool b ∧ Q (.bool b) s') E) e J hJ (fun _ _ h => h) N 0 s' (by simp) j' (fun s js => ⟨_, rfl, h s js⟩)
    obtain ⟨hp, g, d, tk, os⟩ := s'
    wp_walk using PySem.AutoSeq1.wpAny_loadPart' hl
    exact ⟨plainId_quiet plain_contains_loop _, codeAny_builtin entry_contains_loop (by
      rw [Around.under_plainId plain_contains_loop _]
      exact go)⟩
  · obtain ⟨b, rfl, hq⟩ := hv
    exact wpAny_truthy_bool (wpAny_pure hq)
end PySem.SeqAt
namespace Sz
open PySem PySem.Spec PySem.Calls PyProof.Rows L2
theorem notFirst_none {K : PySem.W.Frag} {C : Addr} : PySem.W.notFirst K C (.type "NoneType") = true := by
  have h : PySem.W.subIn K (.type "NoneType") (.ref C) = some false := by
    unfold PySem.W.subIn
    rfl
  unfold PySem.W.notFirst
  rw [h]
  rfl
/-- an own == says no of None -/
def spEqN (N : Addr → Hp → Prop) : Sp := fun vs H Q _ => ∃ a, vs = [.ref a, .non] ∧ N a H ∧ ∀ H', Ext H H' → Q (.bl false) H'
section
variable {X : Cx} {n : Nat}
theorem eqN_run {CX : CXT} {C f : Addr} {fd : FuncData} {ps : List Str} {N : Addr → Hp → Prop} {E : XK} (F : FnOk X.prog X.w X.K X.mg X.base CX n f fd ps (spEqN N))
    (hs : PySem.W.findIn X.K (.ref C) "__eq__" = some (some (.ref f))) (hf : PySem.W.isFn X.K (.ref f) = true) (hb : Binds X.K fd ps []) (hx : Passes CX X E)
    {A : Around} {pins : List (Addr × Obj)} {s : Shared} {σ : L2.St} {H : Hp} {a dx : Addr} {fs : List (Str × V)} (sb : Sub X n A) (I : Inv X pins σ H s) (ha : H a = some (.ins C dx fs)) (hr : N a H) :
    wpAny (model X.prog X.w) A (eqBool (.ref a) .none) (fun r s' => r = false ∧ ∃ H', Inv X pins σ H' s' ∧ Ext H H') X.xe s := by
  obtain ⟨mA, J, _⟩ := ins_get I.hok ha
  obtain ⟨od, J, _⟩ := J.look
  obtain ⟨m, hF⟩ := I.fr
  unfold eqBool
  refine wpAny_holding ?_
  refine wpAny_ite_split (fun hab => by cases eq_of_beq hab) (fun _ => ?_)
  refine wpAny_bind ?_
  refine PySem.W.cmp_K (op := .Eq) (tb := .type "NoneType") sb.room.units0 hF I.ok.mod.kin J (PySem.W.Looks.of_pure rfl) notFirst_none hs hf ?_
  have hsp : spEqN N [.ref a, .non] H (fun v H' => v = .bl false ∧ Ext H H') E := ⟨a, rfl, hr, fun H' e => ⟨rfl, e⟩⟩
  have e0 : Env0 X.prog X.w X.K X.mg X.base A X.stack s H := by
    have e := I.env0
    exact ⟨by rw [sb.fr]; exact e.frames, e.mod, e.bs, e.bsz, e.funs, e.frf, e.hok, e.bare⟩
  have hl := F.len _ _ _ _ hsp
  have r2 : Vals [V.ref a, V.non] [Value.ref a, Value.none] := .cons rfl (.cons rfl .nil)
  refine wpAny_call (codeAny_mono (F.run A X.stack s H ⟨[.ref a, .none], []⟩ [.ref a, .none] [.ref a, .non] _ E sb.room e0 (by
    have := hb s [.ref a, .none] I.kIn (by simpa using hl)
    simpa using this) r2 hsp) fun r s' hq => ?_)
  cases r with
  | error e => exact hx pins σ H s e s' I hq
  | ok fl =>
    cases fl with
    | ret w =>
      obtain ⟨z, H', I', rz, ez, ex⟩ := I.after hq
      subst ez
      cases rz
      exact wpAny_truthy_bool ⟨rfl, H', I', ex⟩
    | next => exact False.elim hq
    | brk => exact False.elim hq
    | cont => exact False.elim hq
end
end Sz
namespace Sz
open PySem PySem.Spec PySem.Calls PyProof.Rows L2
def isNon : V → Bool
  | .non => true
  | _ => false
/-- None in a list of things of one class and None -/
def rInN (K : PySem.W.Frag) (C : Addr) (N : Addr → Hp → Prop) : R2 := fun x y H Q => ∃ p ys, x = .non ∧ y = .ref p ∧ SqL K H p ys ∧ (∀ z ∈ ys, z = .non ∨ ∃ a dx fs, z = .ref a ∧ H a = some (.ins C dx fs) ∧ N a H) ∧ ∀ H', Ext H H' → Q (.bl (ys.any isNon)) H'
theorem any_range {ys : List V} : ∀ {zs ds : List V}, ys = ds ++ zs → (List.range' ds.length zs.length).any (fun i => (ys[i]?.map isNon).getD false) = zs.any isNon
  | [], _, _ => rfl
  | z :: zs, ds, e => by
    have ih := any_range (ys := ys) (zs := zs) (ds := ds ++ [z]) (by rw [e]; simp)
    rw [List.length_append] at ih
    rw [List.length_cons, List.range'_succ, List.any_cons, List.any_cons, ← ih]
    have e2 : ys[ds.length]? = some z := by rw [e]; simp
    rw [e2]
    rfl
section
variable {X : Cx} {CX : CXT} {k : Nat} {C : Str} {ps : List Str} {N : Addr → Hp → Prop} {E : XK}
theorem op_inN (G : PromM X.prog X.w X.K X.mg X.base CX k C "__eq__" ps (spEqN N)) (hm : ∀ a H H', Ext H H' → N a H → N a H') (hr : Room (k + 1) X.A) (hx : Passes CX X E) : OpR X (compareOp .In) (rInN X.K (He.ga X.K C) N) := by
  intro pins s σ H x y v u Q I rx ry h
  obtain ⟨p, ys, rfl, rfl, hq, hy, q⟩ := h
  cases rx
  cases ry
  obtain ⟨fd, F, b⟩ := G.ex
  refine SeqAt.in_listG (N := ys.length) (fun i => (ys[i]?.map isNon).getD false) (fun s' => ∃ H', Inv X pins σ H' s' ∧ Ext H H') ?_ ⟨H, I, Ext.rfl'⟩ ?_
  · rintro s' ⟨H', I', e'⟩
    obtain ⟨its, r, ⟨o, n, ho, hc, hd, hdat⟩, hz⟩ := I'.list (Same.seq e' hq)
    refine ⟨its.toArray, n, o.dict, o.slots, ?_, ?_, ?_⟩
    · rw [ho]
      cases o
      cases hc
      cases hdat
      rfl
    · simpa using r.length.symm
    · intro i y hi
      have hi : its[i]? = some y := by simpa using hi
      obtain ⟨z, hz, rz⟩ : ∃ z, ys[i]? = some z ∧ RelV z y := by
        have hlt : i < its.length := by
          rcases List.getElem?_eq_some_iff.mp hi with ⟨h, _⟩
          exact h
        have hy2 : i < ys.length := by
          have := r.length
          omega
        obtain ⟨u, hu, ru⟩ := r.get (List.getElem?_eq_getElem hy2)
        rw [hi] at hu
        cases hu
        exact ⟨_, List.getElem?_eq_getElem hy2, ru⟩
      rcases hy z (List.mem_of_getElem? hz) with rfl | ⟨a, dx, fs, rfl, ha, hN⟩
      · cases rz
        rw [hz]
        exact SeqAt.EqAt.same (A := X.A.in1) (s := s') .none X.prog X.w X.xe _ ⟨rfl, H', I', e'⟩
      · cases rz
        rw [hz]
        refine wpAny_mono (eqN_run F G.me.at_ G.me.fn b hx ⟨hr.in1, rfl⟩ I' (e' _ _ ha) (hm _ _ _ e' hN)) (fun r s2 z => ?_) fun _ _ x => x
        obtain ⟨hr, H2, I2, e2⟩ := z
        exact ⟨hr, H2, I2, e'.trans e2⟩
  · rintro s' ⟨H', I', e'⟩
    have ea := any_range (ys := ys) (zs := ys) (ds := []) rfl
    rw [show (List.range' 0 ys.length).any _ = ys.any isNon from ea]
    exact ⟨.bl _, H', I', rfl, q _ e'⟩
end
end Sz
/-! == by an own __eq__, whatever stands on the right -/
namespace Sz
open PySem PySem.Spec PyProof.Rows L2
section
variable {X : Cx} {CX : CXT} {k : Nat} {C : Str} {ps : List Str} {sp : Sp} {E : XK}
theorem op_eqOA (G : PromM X.prog X.w X.K X.mg X.base CX k C "__eq__" ps sp) (hr : Room k X.A) (hx : Passes CX X E) :
    OpR X (compareOp .Eq) (fun x y H Q => ∃ p dx fs t, x = .ref p ∧ H p = some (.ins (He.ga X.K C) dx fs) ∧ TyX X.K H y t ∧ PySem.W.notFirst X.K (He.ga X.K C) t = true ∧ sp [.ref p, y] H (fun v H2 => ∃ b : Bool, v = .bl b ∧ Q (.bl b) H2) E) := by
  intro pins s σ H x y v u Q I rx ry h
  obtain ⟨p, dx, fs, t, rfl, hp, ty, hn, h⟩ := h
  obtain rfl : v = Value.ref p := rx
  obtain ⟨m1, O1, _⟩ := ins_get I.hok hp
  obtain ⟨od1, J1, _⟩ := O1.look
  obtain ⟨m, hF⟩ := I.fr
  obtain ⟨Pt, kx, hPt, _⟩ := kit_of I ry ty
  show wpAny (model X.prog X.w) X.A (richCompare .Eq (.ref p) u) (EP X pins σ Q) X.xe s
  refine PySem.W.cmp_K (op := .Eq) (tb := t) hr.units0 hF I.ok.mod.kin J1 (kx.ty _ _ I.kIn hPt) hn G.me.at_ G.me.fn ?_
  refine wpAny_mono (run_own G hx (A := X.A) ⟨hr, rfl⟩ (vs := [.ref p, y]) (us := [.ref p, u]) I (.cons rfl (.cons ry .nil)) h) (fun v s' z => ?_) fun _ _ y => y
  obtain ⟨z, H', I', rz, b, rfl, q⟩ := z
  cases rz
  exact ⟨.bl b, H', I', rfl, q⟩
end
theorem notFirst_str {K : PySem.W.Frag} {C : Addr} : PySem.W.notFirst K C (.type "str") = true := by rfl
theorem notFirst_tup {K : PySem.W.Frag} {C : Addr} : PySem.W.notFirst K C (.type "tuple") = true := by rfl
theorem notFirst_own {K : PySem.W.Frag} {C : Addr} : PySem.W.notFirst K C (.ref C) = true := by simp [PySem.W.notFirst]
/-- data of ints, compared -/
theorem eqvAll_ints : ∀ xs ys : List Int, PyData.eqvAll (xs.map PyData.int) (ys.map PyData.int) = decide (xs = ys)
  | [], [] => rfl
  | [], _ :: _ => rfl
  | _ :: _, [] => rfl
  | x :: xs, y :: ys => by
    show (PyData.eqv (.int x) (.int y) && PyData.eqvAll (xs.map PyData.int) (ys.map PyData.int)) = _
    rw [eqvAll_ints xs ys]
    show ((x == y) && decide (xs = ys)) = decide (x :: xs = y :: ys)
    by_cases h : x = y <;> simp [h]
end Sz
/-! methods called with a keyword; a list times an integer -/
namespace Sz
open PySem PySem.Spec PyProof.Rows L2
/-- a method's promise, its function known -/
structure PromMD (P : Program) (w : World) (K : PySem.W.Frag) (mg : Str → Option Value) (base : Heap) (CX : CXT) (k : Nat) (C m q : Str) (st : Stmt) (ps : List Str) (sp : Sp) : Prop where
  cl : Cls K (He.ga K C)
  me : Meth K (He.ga K C) m (He.ma K (He.ga K C) m)
  ex : ∃ fd, FnOk P w K mg base CX k (He.ma K (He.ga K C) m) fd ps sp ∧ Binds K fd ps [] ∧ FunD K m q (defArgs st) (defBody st) (defScope st) [] [] (He.ma K (He.ga K C) m) fd
theorem PromMD.m {P : Program} {w : World} {K : PySem.W.Frag} {mg : Str → Option Value} {base : Heap} {CX : CXT} {k : Nat} {C m q : Str} {st : Stmt} {ps : List Str} {sp : Sp} (h : PromMD P w K mg base CX k C m q st ps sp) : PromM P w K mg base CX k C m ps sp :=
  let ⟨fd, F, b, _⟩ := h.ex
  ⟨h.cl, h.me, fd, F, b⟩
theorem PromMD.of {P : Program} {w : World} {K : PySem.W.Frag} {mg : Str → Option Value} {base : Heap} {C m q : Str} {st : Stmt} {ps N : List Str} {sp : Sp} {k : Nat} (cl : Cls K (He.ga K C)) (me : Meth K (He.ga K C) m (He.ma K (He.ga K C) m)) (D : DefAtM K C m q st) (S : FnScope N ps (defScope st)) (len : ∀ vs H Q E, sp vs H Q E → vs.length = ps.length)
    (hb : ∀ (kV doc pm : Value) (an : Option Addr) (cdv ct : Value) (us : List Value), us.length = ps.length → bindArgs (PySem.W.fnOf m q (defArgs st) (defBody st) (defScope st) .none kV doc pm an cdv ct) ⟨us, []⟩ = pure (ps.zip us))
    (hbody : ∀ (f : Addr) (cdv : Value) (A : Around) (outer : List Env) (s : Shared) (H : Hp) (vs : List V) (Q : VK) (E : XK), Room k (A.deeper (envOfC q (defScope st) s.heap.objs.size f cdv)) → sp vs H Q E →
      ∃ t, PSs (cxOf CX0 P w K mg base N q (defScope st) f cdv A outer s H E).nox (defBody st) t ∧ t { nx := fun _ H' => Q .non H', rt := Q } (start N vs) H) :
    PromMD P w K mg base CX0 (k + 1) C m q st ps sp := by
  obtain ⟨fd, F⟩ := D
  refine ⟨cl, me, fd, F.ok S len (fun cdv A outer s H vs Q E hr hs => ?_), F.bindsN hb, F⟩
  obtain ⟨t, h1, h2⟩ := hbody _ cdv A outer s H vs Q E hr hs
  exact ⟨t, h1.nox, h2⟩
/-- the receiver and one value by its name -/
def two1 {α : Type} (us ws : List α) : List α := match us, ws with
  | [u], [w] => [u, w]
  | _, _ => []
theorem two1_vals {vs zs : List V} {us ws : List Value} (r : Vals vs us) (z : Vals zs ws) : Vals (two1 vs zs) (two1 us ws) := by
  cases r with
  | nil => exact .nil
  | cons a r =>
    cases r with
    | cons _ _ => exact .nil
    | nil =>
      cases z with
      | nil => exact .nil
      | cons b z =>
        cases z with
        | nil => exact .cons a (.cons b .nil)
        | cons _ _ => exact .nil
theorem kb_two {K : PySem.W.Frag} {m q : Str} {st : Stmt} {ps ks : List Str} {f : Addr} {fd : FuncData} (hne : ps.length = 2)
    (h : ∀ (kV doc pm : Value) (an : Option Addr) (cdv ct u w : Value), bindArgs (PySem.W.fnOf m q (defArgs st) (defBody st) (defScope st) .none kV doc pm an cdv ct) ⟨[u], ks.zip [w]⟩ = pure (ps.zip [u, w]))
    (F : FunD K m q (defArgs st) (defBody st) (defScope st) [] [] f fd) : KBinds K fd ps ks two1 two1 := by
  obtain ⟨oc, od, dV, kV, doc, pm, an, cdv, ct, osl, rfl, lk, hcd, hD, hK⟩ := F.ex
  rcases hD with ⟨_, rfl⟩ | ⟨e, _⟩
  · refine ⟨fun s us ws _ hl => ?_, fun r z => two1_vals r z⟩
    match us, ws with
    | [u], [w] => exact .of_eq (h kV doc pm an cdv ct u w)
    | [], _ => exact absurd hl (by show ¬ 0 = _; omega)
    | _ :: _ :: _, _ => exact absurd hl (by show ¬ 0 = _; omega)
    | [_], [] => exact absurd hl (by show ¬ 0 = _; omega)
    | [_], _ :: _ :: _ => exact absurd hl (by show ¬ 0 = _; omega)
  · exact absurd rfl e
/-- o.m(k = v) -/
def tMethK (C : Addr) (m : Str) (sp : Sp) (E : XK) (ta : TE) (tk : TA) : TE := fun σ H Q => ta σ H fun x H1 => ∃ a dx fs, x = .ref a ∧ H1 a = some (.ins C dx fs) ∧ fs.lookup m = none ∧
  tk σ H1 fun zs H2 => sp (two1 [x] zs) H2 Q E
section
variable {X : Cx} {CX : CXT} {k : Nat} {C m q : Str} {st : Stmt} {ps ks : List Str} {sp : Sp} {E : XK} {o : Expr} {kws : List Keyword} {ta : TE} {tk : TA} {apos pos : Pos}
theorem pe_methKP {pl : Sem Bool} (G : PromMD X.prog X.w X.K X.mg X.base CX k C m q st ps sp) (hr : Room k X.A) (hx : Passes CX X E) (hne : ps.length = 2)
    (hb : ∀ (kV doc pm : Value) (an : Option Addr) (cdv ct u w : Value), bindArgs (PySem.W.fnOf m q (defArgs st) (defBody st) (defScope st) .none kV doc pm an cdv ct) ⟨[u], ks.zip [w]⟩ = pure (ps.zip [u, w]))
    (he : PE X o ta) (hkw : PK X kws tk) (hall : (backToKw pos (keywordEach kws X.env)).all (·.1.isSome) = true := by rfl) (hks : (backToKw pos (keywordEach kws X.env)).filterMap (·.1) = ks := by rfl)
    (hpl : ((backTo pos (starEach [] X.env)).any (·.1) || (backToKw pos (keywordEach kws X.env)).any (·.1.isNone)) = false := by rfl)
    (ht : eval (.Call (.Attribute o m apos) [] kws pos) X.env = (do
      let ov ← eval o X.env
      standAt apos.atName
      let (f, first) ← holding [ov] (getMethod ov m pl)
      callWith pos f first (backTo pos (starEach [] X.env)) (backToKw pos (keywordEach kws X.env))) := by rfl) :
    PE X (.Call (.Attribute o m apos) [] kws pos) (tMethK (He.ga X.K C) m sp E ta tk) := by
  obtain ⟨fd, F, _, D⟩ := G.ex
  have kb := kb_two hne hb D
  refine ⟨fun pins s σ H Q I h => ?_⟩
  refine PySem.W.methodCall_KW (pl := pl) (thn (he.run pins s σ H _ I h) fun u s1 ⟨x, H1, I1, rx, a, dx, fs, ex, ea, l, q⟩ => ?_) ht
  subst ex
  obtain rfl : u = Value.ref a := rx
  refine getmeth_ok I1 ea G.cl G.me l ?_
  refine PySem.W.callWith_KW0 (first := [.ref a]) (h₀ := X.base) I.ok.mod.kin G.me.kp hall (thn (hkw.run pos pins s1 σ H1 _ I1 q) fun ws s2 ⟨zs, H2, I2, rz, q2⟩ => ⟨I2.kIn, ?_⟩) hpl
  rw [hks]
  exact run_fnk (us := [.ref a]) (vs := [.ref a]) F hr kb hx I2 (.cons rfl .nil) rz q2
end
/-! ### a list times an integer -/
theorem op_mulL {X : Cx} : OpR X (binaryOp .Mult) (fun x y H Q => ∃ (a : Addr) (xs : List V) (n : Nat), x = V.ref a ∧ y = V.int (n : Int) ∧ n ≤ 4 ∧ xs.length ≤ 1000 ∧ SqL X.K H a xs ∧ ∀ p, H p = none → Q (.ref p) (upd H p (.lst (List.replicate n xs).flatten))) := by
  intro pins s σ H x y v u Q I rx ry h
  obtain ⟨a, xs, k, rfl, rfl, k4, xl, hs, q⟩ := h
  obtain rfl : v = Value.ref a := rx
  obtain ⟨tk, rfl⟩ := ry
  obtain ⟨its, rv, ⟨⟨cls, dd, data, sl⟩, n, ho, hc, hdn, hd⟩, hlen⟩ := I.list hs
  have hc1 : cls = Value.type "list" := hc
  have hd1 : data = Data.seq its.toArray n := hd
  subst hc1 hd1
  have hz : its.length ≤ 1000 := by rw [← rv.length]; exact xl
  have hsl := sizeLine_eq
  have hm : its.toArray.size * ((k : Int)).toNat ≤ 4000 := by
    rw [List.size_toArray]
    show its.length * k ≤ 4000
    exact Nat.mul_le_mul hz k4
  have e0 : ((k : Nat) : Int).toNat = k := rfl
  have f0 : Builtin.List.listFitsIndex ((k : Nat) : Int) = true := by
    have : k = 0 ∨ k = 1 ∨ k = 2 ∨ k = 3 ∨ k = 4 := by omega
    rcases this with rfl | rfl | rfl | rfl | rfl <;> decide
  have f1 : ¬ its.toArray.size * ((k : Nat) : Int).toNat > (2 ^ 63 - 1) / 8 := by
    have : (4000 : Nat) ≤ (2 ^ 63 - 1) / 8 := by decide
    omega
  have f2 : ¬ Builtin.List.listTooLong (its.toArray.size * ((k : Nat) : Int).toNat) = true := fun z => by
    have z := of_decide_eq_true z
    omega
  clear hm
  generalize ((k : Nat) : Int) = x at *
  refine wpAny_binaryOp_repeat_ref (T := "list") (U := "int") (by decide) ⟨_, ho, rfl⟩ (fun s' => typeIs_int s' _ tk) noFill_list_mul F.fills_int_mul F.slot_int_rmul repeat_list F.slot_int_index.lookup
    (call_meets F.slot_int_rmul (typeIs_int s _ tk) F.entry_int_rmul (F.args_int_rmul_2 _ _) (lm_int_rmul_list_any x tk a its.toArray n dd sl)
      ⟨ho, rfl, ⟨_, ho, rfl⟩, call_meets F.slot_list_mul ⟨_, ho, rfl⟩ F.entry_list_mul (F.args_list_mul_2 _ _)
        (lm_list_mul_any a its.toArray n dd sl x tk (by rw [f0]; decide) f1 f2)
        (And.intro ho ?_)⟩)
  rw [listMul_foldl_if, e0]
  refine ⟨.ref s.heap.objs.size, upd H s.heap.objs.size (.lst (List.replicate k xs).flatten), I.laid (t' := s.toks) (fun b o e => Heap.get?_push_of_some _ e) (Nat.le_refl _) ⟨?_, _, 0, ?_, Heap.get?_push_size _ rfl⟩, rfl, q _ (I.hok.fresh (Nat.le_refl _))⟩
  · have key : ∀ j : Nat, (List.replicate j xs).flatten.length = j * xs.length := fun j => by
      induction j with
      | zero => simp
      | succ j ih => rw [List.replicate_succ, List.flatten_cons, List.length_append, ih, Nat.succ_mul, Nat.add_comm]
    rw [key]
    have := Nat.mul_le_mul k4 xl
    omega
  · show Vals (List.replicate k xs).flatten (List.replicate k its).flatten
    clear q f0 f1 f2 e0 k4
    induction k with
    | zero => exact .nil
    | succ k ih =>
      rw [List.replicate_succ, List.replicate_succ, List.flatten_cons, List.flatten_cons]
      exact rv.append ih
end Sz
/-! staticmethods, called on their class: C.m(..); a head that tells of their defs too -/
namespace Sz
open PySem PySem.Spec PyProof.Rows L2
/-- C.m is a staticmethod: its record at p, its def at g -/
structure SMet (K : PySem.W.Frag) (C : Addr) (m : Str) (p g : Addr) : Prop where
  rd : ClX.CRead K C (.type "type")
  at_ : PySem.W.findCls K (.ref C) (.type "type") m = some (.get (.builtin "staticmethod.__get__") (.ref p) .none (.ref C))
  rc : ∃ rest, PySem.W.recIn K p "staticmethod" = some (.ref g :: rest)
/-- the address of the def of C's staticmethod m -/
abbrev sA (K : PySem.W.Frag) (C m : Str) : Addr := He5.wf K (He.ga K C) "staticmethod" m
def smB (K : PySem.W.Frag) (C m : Str) : Bool := PySem.W.readsIn K (He.ga K C) (.type "type") && He5.wrapB K (He.ga K C) "staticmethod" "staticmethod.__get__" m
theorem smB_ok {K : PySem.W.Frag} {C m : Str} (h : smB K C m = true) : SMet K (He.ga K C) m (He.ma K (He.ga K C) m) (sA K C m) := by
  obtain ⟨h1, h2⟩ := He.ba h
  obtain ⟨h3, h4⟩ := He5.wrapB_ok h2
  refine ⟨⟨h1, ?_⟩, h3, h4⟩
  unfold PySem.W.readsIn at h1
  obtain ⟨h, _⟩ := He.ba h1
  obtain ⟨h, _⟩ := He.ba h
  obtain ⟨h, h3⟩ := He.ba h
  obtain ⟨_, h2⟩ := He.ba h
  unfold PySem.W.specialIn
  rw [beq_iff_eq.mp h2, Option.bind_some]
  exact beq_iff_eq.mp h3
section
variable {X : Cx} {pins : List (Addr × Obj)} {σ : L2.St} {H : Hp} {s : Shared} {C p g : Addr} {m : Str} {A : Around} {E : Value → Shared → Prop}
theorem getsm_ok {pl : Sem Bool} {Q : Value × List Value → Shared → Prop} (I : Inv X pins σ H s) (k : SMet X.K C m p g)
    (h : ∀ s', Inv X pins σ H s' → Q (.ref g, []) s') : wpAny (model X.prog X.w) A (getMethod (.ref C) m pl) Q E s := by
  obtain ⟨rest, hp⟩ := k.rc
  exact PySem.W.method_cls I.kIn k.rd.ga (PySem.W.cls_bind I.kIn k.rd.rd k.at_ (wpAny_call (PySem.W.sm_get (s := { s with toks := s.toks + 1 }) I.kIn hp (PySem.W.handed_on rfl (h _ (I.tok _))))))
end
/-- the def of a staticmethod -/
def DefAtS (K : PySem.W.Frag) (C m q : Str) (st : Stmt) : Prop := ∃ fd, FunD K m q (defArgs st) (defBody st) (defScope st) [] [] (sA K C m) fd
/-- C.m, a staticmethod, keeps the promise sp -/
structure PromS (P : Program) (w : World) (K : PySem.W.Frag) (mg : Str → Option Value) (base : Heap) (CX : CXT) (k : Nat) (C m q : Str) (st : Stmt) (ps : List Str) (sp : Sp) : Prop where
  sm : SMet K (He.ga K C) m (He.ma K (He.ga K C) m) (sA K C m)
  ex : ∃ fd, FnOk P w K mg base CX k (sA K C m) fd ps sp ∧ Binds K fd ps [] ∧ FunD K m q (defArgs st) (defBody st) (defScope st) [] [] (sA K C m) fd
section
variable {P : Program} {w : World} {K : PySem.W.Frag} {mg : Str → Option Value} {base : Heap}
theorem PromS.of {C m q : Str} {st : Stmt} {ps N : List Str} {sp : Sp} {k : Nat} (sm : SMet K (He.ga K C) m (He.ma K (He.ga K C) m) (sA K C m)) (D : DefAtS K C m q st) (S : FnScope N ps (defScope st)) (len : ∀ vs H Q E, sp vs H Q E → vs.length = ps.length)
    (hb : ∀ (kV doc pm : Value) (an : Option Addr) (cdv ct : Value) (us : List Value), us.length = ps.length → bindArgs (PySem.W.fnOf m q (defArgs st) (defBody st) (defScope st) .none kV doc pm an cdv ct) ⟨us, []⟩ = pure (ps.zip us))
    (hbody : ∀ (f : Addr) (cdv : Value) (A : Around) (outer : List Env) (s : Shared) (H : Hp) (vs : List V) (Q : VK) (E : XK), Room k (A.deeper (envOfC q (defScope st) s.heap.objs.size f cdv)) → sp vs H Q E →
      ∃ t, PSs (cxOf CX0 P w K mg base N q (defScope st) f cdv A outer s H E).nox (defBody st) t ∧ t { nx := fun _ H' => Q .non H', rt := Q } (start N vs) H) :
    PromS P w K mg base CX0 (k + 1) C m q st ps sp := by
  obtain ⟨fd, F⟩ := D
  refine ⟨sm, fd, F.ok S len (fun cdv A outer s H vs Q E hr hs => ?_), F.bindsN hb, F⟩
  obtain ⟨t, h1, h2⟩ := hbody _ cdv A outer s H vs Q E hr hs
  exact ⟨t, h1.nox, h2⟩
/-- .. one that raises -/
theorem PromS.ofX {C m q : Str} {st : Stmt} {ps N : List Str} {sp : Sp} {k : Nat} (sm : SMet K (He.ga K C) m (He.ma K (He.ga K C) m) (sA K C m)) (D : DefAtS K C m q st) (S : FnScope N ps (defScope st)) (len : ∀ vs H Q E, sp vs H Q E → vs.length = ps.length)
    (hb : ∀ (kV doc pm : Value) (an : Option Addr) (cdv ct : Value) (us : List Value), us.length = ps.length → bindArgs (PySem.W.fnOf m q (defArgs st) (defBody st) (defScope st) .none kV doc pm an cdv ct) ⟨us, []⟩ = pure (ps.zip us))
    (hbody : ∀ (f : Addr) (cdv : Value) (A : Around) (outer : List Env) (s : Shared) (H : Hp) (vs : List V) (Q : VK) (E : XK), Room k (A.deeper (envOfC q (defScope st) s.heap.objs.size f cdv)) → sp vs H Q E →
      ∃ t, PSs (cxOf CX0 P w K mg base N q (defScope st) f cdv A outer s H E) (defBody st) t ∧ t { nx := fun _ H' => Q .non H', rt := Q } (start N vs) H) :
    PromS P w K mg base CX0 (k + 1) C m q st ps sp := by
  obtain ⟨fd, F⟩ := D
  exact ⟨sm, fd, F.ok S len (fun cdv A outer s H vs Q E hr hs => hbody _ cdv A outer s H vs Q E hr hs), F.bindsN hb, F⟩
end
/-- C.m(e, ..) -/
def tSMeth (C : Addr) (sp : Sp) (E : XK) (ta : TE) (t : TA) : TE := fun σ H Q => ta σ H fun x H1 => x = .ref C ∧ t σ H1 fun vs H2 => sp vs H2 Q E
def tSMethK (C : Addr) (sp : Sp) (gV : List V → List V → List V) (E : XK) (ta : TE) (tk : TA) : TE := fun σ H Q => ta σ H fun x H1 => x = .ref C ∧ tk σ H1 fun zs H2 => sp (gV [] zs) H2 Q E
section
variable {X : Cx} {CX : CXT} {k : Nat} {C m q : Str} {st : Stmt} {ps ks : List Str} {sp : Sp} {E : XK} {o e : Expr} {es : List Expr} {kws : List Keyword} {ta : TE} {t tk : TA} {apos pos : Pos}
theorem pe_smethP {pl : Sem Bool} (G : PromS X.prog X.w X.K X.mg X.base CX k C m q st ps sp) (hr : Room k X.A) (hx : Passes CX X E) (he : PE X o ta) (ha : PA X (e :: es) t)
    (hst : starEach (e :: es) X.env = (false, eval e X.env) :: starEach es X.env := by rfl) (hpl : (backTo pos (starEach es X.env)).any (·.1) = false := by rfl)
    (ht : eval (.Call (.Attribute o m apos) (e :: es) [] pos) X.env = (do
      let ov ← eval o X.env
      standAt apos.atName
      let (f, first) ← holding [ov] (getMethod ov m pl)
      callWith pos f first (backTo pos (starEach (e :: es) X.env)) (backToKw pos (keywordEach [] X.env))) := by rfl) :
    PE X (.Call (.Attribute o m apos) (e :: es) [] pos) (tSMeth (He.ga X.K C) sp E ta t) := by
  obtain ⟨fd, F, b, D⟩ := G.ex
  refine ⟨fun pins s σ H Q I h => ?_⟩
  refine PySem.W.methodCall_KW (pl := pl) (thn (he.run pins s σ H _ I h) fun u s1 ⟨x, H1, I1, rx, ex, q⟩ => ?_) ht
  subst ex
  obtain rfl : u = Value.ref (He.ga X.K C) := rx
  refine getsm_ok I1 G.sm fun s2 I2 => ?_
  refine PySem.W.callWith_K (first := []) (h₀ := X.base) I.ok.mod.kin D.kp (thn (ha.run pos pins s2 σ H1 _ I2 q) fun us s3 ⟨vs, H2, I3, rv, q2⟩ => ⟨I3.kIn, ?_⟩) hst hpl
  exact run_fn (us := us) (vs := vs) F hr b .nil hx I3 rv (by rw [List.append_nil]; exact q2)
theorem pe_smethKP {pl : Sem Bool} {g : List Value → List Value → List Value} {gV : List V → List V → List V} (G : PromS X.prog X.w X.K X.mg X.base CX k C m q st ps sp) (hr : Room k X.A) (hx : Passes CX X E)
    (hb : ∀ fd f, FunD X.K m q (defArgs st) (defBody st) (defScope st) [] [] f fd → KBinds X.K fd ps ks g gV)
    (he : PE X o ta) (hkw : PK X kws tk) (hall : (backToKw pos (keywordEach kws X.env)).all (·.1.isSome) = true := by rfl) (hks : (backToKw pos (keywordEach kws X.env)).filterMap (·.1) = ks := by rfl)
    (hpl : ((backTo pos (starEach [] X.env)).any (·.1) || (backToKw pos (keywordEach kws X.env)).any (·.1.isNone)) = false := by rfl)
    (ht : eval (.Call (.Attribute o m apos) [] kws pos) X.env = (do
      let ov ← eval o X.env
      standAt apos.atName
      let (f, first) ← holding [ov] (getMethod ov m pl)
      callWith pos f first (backTo pos (starEach [] X.env)) (backToKw pos (keywordEach kws X.env))) := by rfl) :
    PE X (.Call (.Attribute o m apos) [] kws pos) (tSMethK (He.ga X.K C) sp gV E ta tk) := by
  obtain ⟨fd, F, _, D⟩ := G.ex
  have kb := hb fd _ D
  refine ⟨fun pins s σ H Q I h => ?_⟩
  refine PySem.W.methodCall_KW (pl := pl) (thn (he.run pins s σ H _ I h) fun u s1 ⟨x, H1, I1, rx, ex, q⟩ => ?_) ht
  subst ex
  obtain rfl : u = Value.ref (He.ga X.K C) := rx
  refine getsm_ok I1 G.sm fun s2 I2 => ?_
  refine PySem.W.callWith_KW0 (first := []) (h₀ := X.base) I.ok.mod.kin D.kp hall (thn (hkw.run pos pins s2 σ H1 _ I2 q) fun ws s3 ⟨zs, H2, I3, rz, q2⟩ => ⟨I3.kIn, ?_⟩) hpl
  rw [hks]
  exact run_fnk (us := []) (vs := []) F hr kb hx I3 .nil rz q2
end
/-- one value by its name, at a staticmethod -/
def kOne {α : Type} (us ws : List α) : List α := match us with
  | [] => ws
  | _ :: _ => []
theorem kOne_vals {vs zs : List V} {us ws : List Value} (r : Vals vs us) (z : Vals zs ws) : Vals (kOne vs zs) (kOne us ws) := by
  cases r with
  | nil => exact z
  | cons _ _ => exact .nil
theorem kb_one {K : PySem.W.Frag} {m q : Str} {st : Stmt} {ps ks : List Str} (hne : ps.length = 1) 
    (h : ∀ (kV doc pm : Value) (an : Option Addr) (cdv ct w : Value), bindArgs (PySem.W.fnOf m q (defArgs st) (defBody st) (defScope st) .none kV doc pm an cdv ct) ⟨[], ks.zip [w]⟩ = pure (ps.zip [w])) :
    ∀ fd f, FunD K m q (defArgs st) (defBody st) (defScope st) [] [] f fd → KBinds K fd ps ks kOne kOne := fun fd f F => by
  obtain ⟨oc, od, dV, kV, doc, pm, an, cdv, ct, osl, rfl, lk, hcd, hD, hK⟩ := F.ex
  rcases hD with ⟨_, rfl⟩ | ⟨e, _⟩
  · refine ⟨fun s us ws _ hl => ?_, fun r z => kOne_vals r z⟩
    match us, ws with
    | [], [w] => exact .of_eq (h kV doc pm an cdv ct w)
    | _ :: _, _ => exact absurd hl (by show ¬ 0 = _; omega)
    | [], [] => exact absurd hl (by show ¬ 0 = _; omega)
    | [], _ :: _ :: _ => exact absurd hl (by rw [hne]; show ¬ _ + 1 + 1 = 1; omega)
  · exact absurd rfl e
/-! ### the hook -/
structure SaysS (fb : PySem.W.Frag → Bool) (fa : List He.Fa) (fn : List He.DefD) (ts : List He.Tab) (tf : List He.Defn) (sm : List He5.DefA) (w : World) (h : Heap) (K : PySem.W.Frag) : Prop where
  x : SaysX fb fa fn ts w K
  s : He5.SaysA [] sm K
  hd : ∀ p ∈ tf, PySem.W.codeHdIn K (He.cT K p).1 (He.cT K p).2 = true
  out : ∀ p ∈ tf, K.lookup (He.cT K p).2 = none
  empty : ∀ p ∈ tf, h.get? (He.cT K p).2 = some { cls := .none, data := .fields #[] }
def asS (g : Addr → Option Obj) (n : Nat) : List Addr := asX g n ++ [cStatics]
def obsSG (n : Nat) (fb : PySem.W.Frag → Bool) (fa : List He.Fa) (fn : List He.DefD) (ts : List He.Tab) (tf : List He.Defn) (sm : List He5.DefA) (g : Addr → Option Obj) : (Bool × AlX) × He.AlD :=
  ((He.tabsB g tf (He.frT g (asS g n)), obsX fb fa fn ts (He.frT g (asS g n))), He5.obsA [] sm (He.frT g (asS g n)))
def hookS (n : Nat) (fb : PySem.W.Frag → Bool) (fa : List He.Fa) (fn : List He.DefD) (ts : List He.Tab) (tf : List He.Defn) (sm : List He5.DefA) : PySem.W.Hook where
  α := (Bool × AlX) × He.AlD
  obs := fun s => obsSG n fb fa fn ts tf sm s.heap.get?
  val := fun w => ((true, valX fn ts w), He5.valA sm)
  says := fun w h => ∃ K : PySem.W.Frag, K.In h ∧ SaysS fb fa fn ts tf sm w h K
  of := fun w s e => by
    have e1 : He.tabsB s.heap.get? tf (He.frT s.heap.get? (asS s.heap.get? n)) = true := congrArg (fun z : (Bool × AlX) × He.AlD => z.1.1) e
    have e2 : obsX fb fa fn ts (He.frT s.heap.get? (asS s.heap.get? n)) = valX fn ts w := congrArg (fun z : (Bool × AlX) × He.AlD => z.1.2) e
    have e3 : He5.obsA [] sm (He.frT s.heap.get? (asS s.heap.get? n)) = He5.valA sm := congrArg (fun z : (Bool × AlX) × He.AlD => z.2) e
    have key : ∀ p ∈ tf, PySem.W.codeHdIn (He.frT s.heap.get? (asS s.heap.get? n)) (He.cT (He.frT s.heap.get? (asS s.heap.get? n)) p).1 (He.cT (He.frT s.heap.get? (asS s.heap.get? n)) p).2 = true ∧ ∃ o, s.heap.get? (He.cT (He.frT s.heap.get? (asS s.heap.get? n)) p).2 = some o ∧ He.emptyTab o = true := fun p hp => by
      obtain ⟨h3, h4⟩ := He.ba (List.all_eq_true.mp e1 p hp)
      refine ⟨h3, ?_⟩
      cases q : s.heap.get? (He.cT (He.frT s.heap.get? (asS s.heap.get? n)) p).2 with
      | none =>
        rw [q] at h4
        cases h4
      | some o =>
        rw [q] at h4
        exact ⟨o, rfl, h4⟩
    refine ⟨_, He.frT_in, e2, e3, fun p hp => (key p hp).1, fun p hp => ?_, fun p hp => ?_⟩
    · obtain ⟨_, o, q, z⟩ := key p hp
      exact He.frT_none q z
    · obtain ⟨_, o, q, z⟩ := key p hp
      rw [q, He.emptyTab_eq z]
  keeps := fun _ _ _ ⟨K, hK, c⟩ k => ⟨K, PySem.W.Frag.In.keeps hK k, c.x, c.s, c.hd, c.out, fun p hp => k _ _ (c.empty p hp)⟩
theorem obsSG_eq {n : Nat} {fb : PySem.W.Frag → Bool} {fa : List He.Fa} {fn : List He.DefD} {ts : List He.Tab} {tf : List He.Defn} {sm : List He5.DefA} {g : Addr → Option Obj} {s : Shared} (h : ∀ a, g a = s.heap.get? a) : obsSG n fb fa fn ts tf sm g = (hookS n fb fa fn ts tf sm).obs s := by
  rw [show g = s.heap.get? from funext h]
  rfl
end Sz
/-! x + y by an own __add__, whatever stands on the right -/
namespace Sz
open PySem PySem.Spec PyProof.Rows L2
/-- what the class must have: its own def, no reflected one, it stands under object alone -/
structure AddC (K : PySem.W.Frag) (C f : Addr) : Prop where
  c1 : ∃ cd, PySem.W.clsIn K C = some cd ∧ cd.mro = [.ref C, .type "object"]
  at_ : PySem.W.findIn K (.ref C) "__add__" = some (some (.ref f))
  fn : PySem.W.isFn K (.ref f) = true
  nr : PySem.W.findIn K (.ref C) "__radd__" = some none
def addCB (K : PySem.W.Frag) (C : Str) : Bool := mroB K (He.ga K C) && (He.eqO (PySem.W.findIn K (.ref (He.ga K C)) "__add__") (some (some (.ref (He.ma K (He.ga K C) "__add__")))) &&
  (PySem.W.isFn K (.ref (He.ma K (He.ga K C) "__add__")) && He.eqO (PySem.W.findIn K (.ref (He.ga K C)) "__radd__") (some none)))
theorem addCB_ok {K : PySem.W.Frag} {C : Str} (h : addCB K C = true) : AddC K (He.ga K C) (He.ma K (He.ga K C) "__add__") := by
  obtain ⟨h1, h⟩ := He.ba h
  obtain ⟨h2, h⟩ := He.ba h
  obtain ⟨h3, h4⟩ := He.ba h
  exact ⟨mroB_ok h1, He.eqO_ok h2, h3, He.eqO_ok h4⟩
section
variable {K : PySem.W.Frag} {M : Model} {h : Heap} {C f : Addr}
theorem fills_ownC (X : K.In h) (a : AddC K C f) : PySem.W.Looks M h (fillsNumberSlot (.ref C) "add") true := by
  obtain ⟨cd, e1, e2⟩ := a.c1
  have L1 : PySem.W.Looks M h (mroOf (.ref C)) cd.mro := (PySem.W.looks_clsIn X e1).andThen .now
  have L2 : PySem.W.Looks M h (typeLookup (.ref C) "__add__") (some (.ref f)) := PySem.W.looks_findIn X a.at_
  unfold fillsNumberSlot
  refine PySem.W.Looks.andThen L1 ?_
  rw [e2]
  simp only [List.anyM]
  refine PySem.W.Looks.andThen (a := true) ?_ .now
  refine PySem.W.Looks.andThen (a := true) (PySem.W.Looks.andThen L2 ?_) .now
  exact .now
theorem python_ownC (X : K.In h) (a : AddC K C f) : PySem.W.Looks M h (numberSlotInPython (.ref C) "add") true := by
  have L2 : PySem.W.Looks M h (typeLookup (.ref C) "__add__") (some (.ref f)) := PySem.W.looks_findIn X a.at_
  have L3 : PySem.W.Looks M h (typeLookup (.ref C) "__radd__") none := PySem.W.looks_findIn X a.nr
  unfold numberSlotInPython
  refine PySem.W.Looks.andThen L2 ?_
  refine PySem.W.Looks.andThen (a := true) .now ?_
  refine PySem.W.Looks.andThen L3 ?_
  refine PySem.W.Looks.andThen (a := false) .now ?_
  exact .now
theorem fills_t {T : String} {r : Bool} (e : fillsNumberSlot (.type T) "add" = pure r) : PySem.W.Looks M h (fillsNumberSlot (.type T) "add") r := by
  rw [e]
  exact .now
end
theorem fn_none : fillsNumberSlot (.type "NoneType") "add" = pure false := by
  unfold fillsNumberSlot
  simp only [typeLookup_type, builtinLookup_eq_fast]
  kernel_rfl
theorem fn_int : fillsNumberSlot (.type "int") "add" = pure true := by
  unfold fillsNumberSlot
  simp only [typeLookup_type, builtinLookup_eq_fast]
  kernel_rfl
theorem fn_bool : fillsNumberSlot (.type "bool") "add" = pure true := by
  unfold fillsNumberSlot
  simp only [typeLookup_type, builtinLookup_eq_fast]
  kernel_rfl
theorem fn_str : fillsNumberSlot (.type "str") "add" = pure false := by
  unfold fillsNumberSlot
  simp only [typeLookup_type, builtinLookup_eq_fast]
  kernel_rfl
theorem fn_tuple : fillsNumberSlot (.type "tuple") "add" = pure false := by
  unfold fillsNumberSlot
  simp only [typeLookup_type, builtinLookup_eq_fast]
  kernel_rfl
theorem fn_list : fillsNumberSlot (.type "list") "add" = pure false := by
  unfold fillsNumberSlot
  simp only [typeLookup_type, builtinLookup_eq_fast]
  kernel_rfl
theorem fn_dict : fillsNumberSlot (.type "dict") "add" = pure false := by
  unfold fillsNumberSlot
  simp only [typeLookup_type, builtinLookup_eq_fast]
  kernel_rfl
theorem sub_int {C : Addr} : isSubtype (.type "int") (.ref C) = pure false := by
  unfold isSubtype mroOf
  kernel_rfl
theorem sub_bool {C : Addr} : isSubtype (.type "bool") (.ref C) = pure false := by
  unfold isSubtype mroOf
  kernel_rfl
theorem rl_int : ∃ x, typeLookup (.type "int") (dunderR "add") = pure x := ⟨some (.builtin "int.__radd__"), by rw [typeLookup_type, builtinLookup_eq_fast]; kernel_rfl⟩
theorem rl_bool : ∃ x, typeLookup (.type "bool") (dunderR "add") = pure x := ⟨some (.builtin "int.__radd__"), by rw [typeLookup_type, builtinLookup_eq_fast]; kernel_rfl⟩
/-- what may stand on the right -/
inductive AddT (K : PySem.W.Frag) (C : Addr) : Value → Prop where
  | self : AddT K C (.ref C)
  | own {D f : Addr} (a : AddK K C D f) : AddT K C (.ref D)
  | none : AddT K C (.type "NoneType")
  | str : AddT K C (.type "str")
  | tup : AddT K C (.type "tuple")
  | lst : AddT K C (.type "list")
  | dct : AddT K C (.type "dict")
  | int : AddT K C (.type "int")
  | bool : AddT K C (.type "bool")
section
variable {X : Cx} {CX : CXT} {k : Nat} {C : Str} {ps : List Str} {sp : Sp} {E : XK}
theorem try_own {pins : List (Addr × Obj)} {s : Shared} {σ : L2.St} {H : Hp} {Q : VK} {y : V} {u : Value} {p dx : Addr} {fs : List (Str × V)} {Q2 : Option Value → Shared → Prop} (a : AddC X.K (He.ga X.K C) (He.ma X.K (He.ga X.K C) "__add__")) (G : PromM X.prog X.w X.K X.mg X.base CX k C "__add__" ps sp) (hr : Room k X.A) (hx : Passes CX X E)
    (I : Inv X pins σ H s) (ry : RelV y u) (hp : H p = some (.ins (He.ga X.K C) dx fs)) (h : sp [.ref p, y] H Q E) (k2 : ∀ v s', EP X pins σ Q v s' → Q2 (some v) s') :
    wpAny (model X.prog X.w) X.A (tryMethod (.ref p) (dunder "add") u) Q2 X.xe s := by
  obtain ⟨m1, O1, _⟩ := ins_get I.hok hp
  obtain ⟨od1, J1, _⟩ := O1.look
  obtain ⟨fd, F, b⟩ := G.ex
  unfold tryMethod callSpecial? specialOf
  refine wpAny_bind (wpAny_bind (wpAny_bind (J1.type.here ((PySem.W.looks_findIn I.kIn a.at_).here ?_))))
  refine wpAny_holding (wpAny_bind ((PySem.W.bind_fn I.kIn (.ref p) (beq_iff_eq.mp a.fn)).here ?_))
  refine wpAny_bind (thn (run_fn (us := [.ref p, u]) (vs := [.ref p, y]) F hr b .nil hx I (.cons rfl (.cons ry .nil)) h) fun v s' hv => wpAny_pure ?_)
  have key := k2 v s' hv
  obtain ⟨x, H', I', r, q'⟩ := hv
  cases x with
  | non => cases (show v = Value.none from r); exact wpAny_pure key
  | bl c => cases (show v = Value.bool c from r); exact wpAny_pure key
  | int i => obtain ⟨t, rfl⟩ := (show ∃ t, v = Value.int i t from r); exact wpAny_pure key
  | str i => obtain ⟨t, rfl⟩ := (show ∃ t, v = Value.str i t from r); exact wpAny_pure key
  | byt i => obtain ⟨t, rfl⟩ := (show ∃ t, v = Value.bytes i t from r); exact wpAny_pure key
  | flt i => obtain ⟨t, rfl⟩ := (show ∃ t, v = Value.float i t from r); exact wpAny_pure key
  | ref a => cases (show v = Value.ref a from r); exact wpAny_pure key
  | ty n => cases (show v = Value.type n from r); exact wpAny_pure key
def rAddG (K : PySem.W.Frag) (C : Str) (sp : Sp) (E : XK) : R2 := fun x y H Q => ∃ p dx fs t, x = V.ref p ∧ H p = some (.ins (He.ga K C) dx fs) ∧ TyX K H y t ∧ AddT K (He.ga K C) t ∧ sp [.ref p, y] H Q E
/-- x + y: x an instance of C with its own __add__ -/
theorem op_addG (a : AddC X.K (He.ga X.K C) (He.ma X.K (He.ga X.K C) "__add__")) (G : PromM X.prog X.w X.K X.mg X.base CX k C "__add__" ps sp) (hr : Room k X.A) (hx : Passes CX X E) :
    OpR X (binaryOp .Add) (rAddG X.K C sp E) := by
  intro pins s σ H x y v u Q I rx ry h
  obtain ⟨p, dx, fs, t, rfl, hp, ty, at_, h⟩ := h
  obtain rfl : v = Value.ref p := rx
  obtain ⟨m1, O1, _⟩ := ins_get I.hok hp
  obtain ⟨od1, J1, _⟩ := O1.look
  obtain ⟨Pt, kx, hPt, _⟩ := kit_of I ry ty
  have tyU := kx.ty (model X.prog X.w) _ I.kIn hPt
  unfold binaryOp
  refine wpAny_holding ?_
  show wpAny _ _ (binaryOp1 "add" (.ref p) u >>= _) _ _ s
  refine wpAny_bind ?_
  have slow : ∀ {T : Value}, PySem.W.Looks (model X.prog X.w) s.heap (typeOf u) T → (Value.ref (He.ga X.K C) == T) = false → PySem.W.Looks (model X.prog X.w) s.heap (fillsNumberSlot T "add") false → wpAny (model X.prog X.w) X.A (binaryOp1 "add" (.ref p) u) (fun r s2 => ∃ v, r = some v ∧ EP X pins σ Q v s2) X.xe s := by
    intro T tyU ne fl
    unfold binaryOp1
    refine wpAny_bind (J1.type.here (wpAny_bind (tyU.here (wpAny_bind ((fills_ownC I.kIn a).here ?_)))))
    rw [ne]
    refine wpAny_bind (fl.here ?_)
    simp only [Bool.and_false, Bool.false_and, Bool.false_eq_true, if_false, if_true]
    refine wpAny_bind (wpAny_pure ?_)
    simp only [Bool.false_eq_true, if_false]
    refine wpAny_bind (try_own a G hr hx I ry hp h fun v s' hv => ?_)
    exact wpAny_pure ⟨v, rfl, hv⟩
  have num : ∀ {T : String}, PySem.W.Looks (model X.prog X.w) s.heap (typeOf u) (.type T) → PySem.W.Looks (model X.prog X.w) s.heap (fillsNumberSlot (.type T) "add") true → isSubtype (.type T) (.ref (He.ga X.K C)) = pure false → (∃ x, typeLookup (.type T) (dunderR "add") = pure x) → wpAny (model X.prog X.w) X.A (binaryOp1 "add" (.ref p) u) (fun r s2 => ∃ v, r = some v ∧ EP X pins σ Q v s2) X.xe s := by
    intro T tyU fl su rl
    unfold binaryOp1
    refine wpAny_bind (J1.type.here (wpAny_bind (tyU.here (wpAny_bind ((fills_ownC I.kIn a).here ?_)))))
    have ne : (Value.ref (He.ga X.K C) == Value.type T) = false := by rfl
    rw [ne]
    refine wpAny_bind (fl.here ?_)
    simp only [Bool.and_true, Bool.and_self, if_true]
    refine wpAny_bind ?_
    rw [su]
    refine wpAny_pure ?_
    simp only [Bool.false_eq_true, if_false, Bool.not_false, Bool.and_true, if_true]
    refine wpAny_bind ((python_ownC I.kIn a).here ?_)
    simp only [if_true]
    refine wpAny_bind ((show PySem.W.Looks (model X.prog X.w) s.heap (numberSlotInPython (.type T) "add") false from .now).here ?_)
    simp only [Bool.not_false, if_true]
    obtain ⟨xr, hxr⟩ := rl
    rw [hxr]
    refine wpAny_bind (wpAny_pure ?_)
    refine wpAny_bind (try_own a G hr hx I ry hp h fun v s' hv => ?_)
    exact wpAny_pure ⟨v, rfl, hv⟩
  refine wpAny_mono (Q := fun r s2 => ∃ v, r = some v ∧ EP X pins σ Q v s2) ?_ (fun r s2 hv => ?_) fun _ _ z => z
  · cases at_ with
    | self =>
      unfold binaryOp1
      refine wpAny_bind (J1.type.here (wpAny_bind (tyU.here (wpAny_bind ((fills_ownC I.kIn a).here ?_)))))
      have ne : (Value.ref (He.ga X.K C) == Value.ref (He.ga X.K C)) = true := by simp
      rw [ne]
      refine wpAny_bind (wpAny_pure ?_)
      simp only [Bool.and_false, Bool.false_and, Bool.false_eq_true, if_false, if_true]
      refine wpAny_bind (wpAny_pure ?_)
      simp only [Bool.false_eq_true, if_false]
      refine wpAny_bind (try_own a G hr hx I ry hp h fun v s' hv => ?_)
      exact wpAny_pure ⟨v, rfl, hv⟩
    | own a2 => exact slow tyU (by rw [beq_eq_false_iff_ne]; exact fun z => a2.ne (by injection z)) (fills_none I.kIn a2)
    | none => exact slow tyU rfl (fills_t fn_none)
    | str => exact slow tyU rfl (fills_t fn_str)
    | tup => exact slow tyU rfl (fills_t fn_tuple)
    | lst => exact slow tyU rfl (fills_t fn_list)
    | dct => exact slow tyU rfl (fills_t fn_dict)
    | bool => exact num tyU (fills_t fn_bool) sub_bool rl_bool
    | int => exact num tyU (fills_t fn_int) sub_int rl_int
  · obtain ⟨v, rfl, hv⟩ := hv
    exact wpAny_pure hv
end
end Sz
/-! a != b, two lists whose items are the same: flat, one object, or lists again -/
namespace Sz
open PySem PySem.Spec PyProof.Rows L2
def EqL (K : PySem.W.Frag) (H : Hp) : Nat → V → V → Prop
  | 0 => fun _ _ => False
  | n + 1 => fun x y => (x = y ∧ flatB x = true) ∨ (∃ a, x = .ref a ∧ y = .ref a) ∨ ∃ (a b : Addr) (xs ys : List V), x = .ref a ∧ y = .ref b ∧ SqL K H a xs ∧ SqL K H b ys ∧ Paired (EqL K H n) xs ys
theorem items_at {A : Around} {s : Shared} {F : V → V → Prop} (ih : ∀ x y v u, F x y → RelV x v → RelV y u → SeqAt.EqAt A s v u true) {xs ys : List V} (hp : Paired F xs ys) :
    ∀ {us ws : List Value}, Vals xs us → Vals ys ws → ∀ j (h1 : j < us.length) (h2 : j < ws.length), SeqAt.EqAt A s us[j] ws[j] true := by
  induction hp with
  | nil =>
    intro us ws r1 r2 j h1 h2
    cases r1
    exact absurd h1 (Nat.not_lt_zero j)
  | cons h _ k =>
    intro us ws r1 r2 j h1 h2
    cases r1 with
    | cons a1 b1 =>
      cases r2 with
      | cons a2 b2 =>
        cases j with
        | zero => exact ih _ _ _ _ h a1 a2
        | succ j => exact k b1 b2 j (Nat.lt_of_succ_lt_succ h1) (Nat.lt_of_succ_lt_succ h2)
section
variable {X : Cx} {pins : List (Addr × Obj)} {σ : L2.St} {H : Hp} {s : Shared}
theorem eqL_at (I : Inv X pins σ H s) : ∀ (n : Nat) (A : Around), A.units + n < cLine → ∀ (x y : V) (v u : Value), EqL X.K H n x y → RelV x v → RelV y u → SeqAt.EqAt A s v u true
  | 0, _, _, _, _, _, _, h, _, _ => (show False from h).elim
  | n + 1, A, hu, x, y, v, u, h, rx, ry => by
    rcases h with ⟨rfl, f⟩ | ⟨a, rfl, rfl⟩ | ⟨a, b, xs, ys, rfl, rfl, ha, hb, hp⟩
    · exact eqAt_same rx ry f
    · cases (show v = Value.ref a from rx)
      cases (show u = Value.ref a from ry)
      exact SeqAt.EqAt.same _
    · cases (show v = Value.ref a from rx)
      cases (show u = Value.ref b from ry)
      by_cases e : a = b
      · subst e
        exact SeqAt.EqAt.same _
      · obtain ⟨us, r1, p1, _⟩ := I.list ha
        obtain ⟨ws, r2, p2, _⟩ := I.list hb
        have hsz : us.toArray.size = ws.toArray.size := by
          rw [List.size_toArray, List.size_toArray, ← r1.length, ← r2.length]
          exact Paired.length hp
        have step : SeqAt.RcAt A s (.ref a) (.ref b) ((List.range us.toArray.size).all fun _ => true) := SeqAt.RcAt.lists (e := fun _ => true) p1.isList p2.isList hsz (by omega) (fun j h1 h2 => by
          have k := items_at (eqL_at I n A.in1 (by show A.units + 1 + n < cLine; omega)) hp r1 r2 j (by simpa using h1) (by simpa using h2)
          simpa using k)
        rw [show ((List.range us.toArray.size).all fun _ => true) = true from List.all_eq_true.mpr fun _ _ => rfl] at step
        exact SeqAt.EqAt.of_refs e step
end
def rNeL (K : PySem.W.Frag) : R2 := fun x y H Q => ∃ n, n ≤ 60 ∧ (∃ (a b : Addr) (xs ys : List V), x = .ref a ∧ y = .ref b ∧ SqL K H a xs ∧ SqL K H b ys ∧ Paired (EqL K H n) xs ys) ∧ Q (.bl false) H
theorem op_neL {X : Cx} (hu : X.A.units + 64 < cLine) : OpR X (compareOp .NotEq) (rNeL X.K) := by
  intro pins s σ H x y v u Q I rx ry h
  obtain ⟨n, hn, ⟨a, b, xs, ys, rfl, rfl, ha, hb, hp⟩, q⟩ := h
  cases (show v = Value.ref a from rx)
  cases (show u = Value.ref b from ry)
  obtain ⟨us, r1, p1, _⟩ := I.list ha
  obtain ⟨ws, r2, p2, _⟩ := I.list hb
  have hsz : us.toArray.size = ws.toArray.size := by
    rw [List.size_toArray, List.size_toArray, ← r1.length, ← r2.length]
    exact Paired.length hp
  have step := SeqAt.RcNeAt.lists (A := X.A) (e := fun _ => true) p1.isList p2.isList hsz (by omega) (fun j h1 h2 => by
    have k := items_at (eqL_at I n X.A.in1 (by show X.A.units + 1 + n < cLine; omega)) hp r1 r2 j (by simpa using h1) (by simpa using h2)
    simpa using k)
  rw [show ((List.range us.toArray.size).all fun _ => true) = true from List.all_eq_true.mpr fun _ _ => rfl] at step
  exact step X.prog X.w _ _ ⟨.bl false, H, I, rfl, q⟩
end Sz
/-! bool(x) by an own __len__ -/
namespace Sz
open PySem PySem.Spec PyProof.Rows L2 PySem.Calls PySem.W Builtin
section
variable {prog : Program} {w : World} {A : Around} {E : Value → Shared → Prop} {s : Shared} {K : Frag} {x C L f : Addr} {h₀ : Heap} {m : Str → Option Value} {ox : Obj} {od : Option Obj}
theorem len_bodyO {Q : Value → Shared → Prop} (X : K.In s.heap) (I : W.InstAt s.heap x ox C od) (hs : findIn K (.ref C) "__len__" = some (some (.ref f))) (hf : isFn K (.ref f) = true)
    (h : wpAny (model prog w) A (call (.ref f) [.ref x]) (W.LenBack Q) E s) : wpAny (model prog w) A (Builtin.«len» ⟨[.ref x], []⟩) (fun fin s' => ∃ r, fin = .done (.ret r) ∧ Q r s') E s := by
  unfold Builtin.«len»
  refine wpAny_bind (m := oneArg "len" _) (wpAny_pure ?_)
  refine wpAny_bind (m := callSpecial? (.ref x) (Str.ofString "__len__")) (special_fn X I hs (beq_iff_eq.mp hf) (wpAny_mono h (fun r s' q => ?_) fun _ _ y => y))
  cases r with
  | int n u =>
    obtain ⟨⟨h0, h1⟩, q⟩ := (show (0 ≤ n ∧ n < 2 ^ 63) ∧ Q (.int n s'.toks) { s' with toks := s'.toks + 1 } from q)
    refine wpAny_bind (wpAny_holding (wpAny_pure ?_)) ; refine wpAny_bind (wpAny_letGo ?_)
    show wpAny _ _ (if n < 0 then _ else _) _ _ _ ; rw [if_neg (by omega)]
    show wpAny _ _ (if n ≥ 2 ^ 63 then _ else _) _ _ _ ; rw [if_neg (by omega)]
    exact wpAny_bind (wpAny_mkInt (wpAny_pure ⟨_, rfl, q⟩))
  | _ => exact q.elim
theorem truthy_len {Q : Bool → Shared → Prop} (X : K.In s.heap) (I : W.InstAt s.heap x ox C od) (hb : findIn K (.ref C) "__bool__" = some none) (hs : findIn K (.ref C) "__len__" = some (some (.ref f))) (hf : isFn K (.ref f) = true)
    (h : wpAny (model prog w) A.in1 (call (.ref f) [.ref x]) (W.LenBack fun v s' => ∃ (n : Int) (t : Tok), v = .int n t ∧ Q (n != 0) s') E s) : wpAny (model prog w) A (truthy (.ref x)) Q E s := by
  have key : wpAny (model prog w) A (runValue (.builtin "len" ⟨[.ref x], []⟩)) (fun v s' => ∃ (n : Int) (t : Tok), v = .int n t ∧ Q (n != 0) s') E s := by
    refine wpAny_runValue (codeAny_builtin entry_len ?_)
    rw [Around.under_plainId plain_len _]
    exact wpAny_mono (len_bodyO (A := A.in1) X I hs hf h) (fun fin s' q => by obtain ⟨r, rfl, q⟩ := q; exact q) fun _ _ e => e
  unfold truthy
  refine wpAny_bind (m := callSpecial? (.ref x) (Str.ofString "__bool__")) (wpAny_bind (wpAny_bind (I.type.here ((looks_findIn X hb).here (wpAny_pure ?_)))))
  refine wpAny_bind (wpAny_bind (I.type.here ((looks_findIn X hs).here ?_)))
  refine wpAny_bind (wpAny_mono key (fun v s' q => ?_) fun _ _ e => e)
  obtain ⟨n, t, rfl, q⟩ := q
  exact wpAny_pure q
theorem meets_bool_len (l : Addr) : MeetsIn prog w (Builtin.«bool.__new__» ⟨[.type "bool", .ref l], []⟩) (fun A R s => wpAny (model prog w) A.in1 (truthy (.ref l)) (fun b s' => R (.ok (.ret (.bool b))) s') (fun e s' => R (.error e) s') s) :=
  .of_wp fun A R s h => by
    have f1 := F.conv_sub_bool
    have ht : ∀ {Q' : Bool → Shared → Prop} {E' : Value → Shared → Prop}, (∀ b s', R (.ok (.ret (.bool b))) s' → Q' b s') → (∀ e s', R (.error e) s' → E' e s') → wpAny (model prog w) A.in1 (truthy (.ref l)) Q' E' s := fun h1 h2 => wpAny_mono h h1 h2
    obtain ⟨hp, g, d, tk, os⟩ := s
    repeat (any_goals (first | assumption | (with_reducible refine ht (fun b s' q => ?_) (fun e s' q => q)) | wp_step))
    all_goals first | exact ⟨_, rfl, q⟩ | trace_state
variable {X : Cx} {CX : CXT} {k : Nat} {ps : List Str} {sp : Sp} {E0 : XK} {D : Str}
theorem call_boolL (G : PromM X.prog X.w X.K X.mg X.base CX k D "__len__" ps sp) (hb : findIn X.K (.ref (He.ga X.K D)) "__bool__" = some none) (hr : Room (k + 3) X.A) (hx : Passes CX X E0) :
    CallR X (.type "bool") (fun xs H Q => ∃ p dx fs, xs = [.ref p] ∧ H p = some (.ins (He.ga X.K D) dx fs) ∧ sp [.ref p] H (fun v H' => ∃ n : Int, v = .int n ∧ 0 ≤ n ∧ n < 2 ^ 63 ∧ Q (.bl (n != 0)) H') E0) := by
  intro pins s σ H xs us Q I r h
  obtain ⟨p, dx, fs, rfl, hp, h⟩ := h
  obtain ⟨u, rfl, ru⟩ := vals1 r
  obtain rfl : u = Value.ref p := ru
  obtain ⟨m1, O1, _⟩ := ins_get I.hok hp
  obtain ⟨od1, J1, _⟩ := O1.look
  have r2 : Room k X.A.in1.in1.in1 := hr.in1.in1.in1
  refine callType_newIn F.called_bool F.newNe_bool (F.typeCall_bool_1 (.ref p)) (F.newCall_bool_1 (.ref p)) (fun obj => F.args_object_init_2 obj (.ref p)) F.entry_bool_new (meets_bool_len p) ?_
  refine truthy_len I.kIn J1 hb G.me.at_ G.me.fn ?_
  refine wpAny_mono (run_own G hx (A := X.A.in1.in1.in1) ⟨r2, rfl⟩ (vs := [.ref p]) (us := [.ref p]) I (.cons rfl .nil) h) (fun v s' z => ?_) fun _ _ y => y
  obtain ⟨z, H', I', rz, n, rfl, n0, n1, q⟩ := z
  obtain ⟨t, rfl⟩ := (show ∃ t, v = Value.int n t from rz)
  exact ⟨⟨n0, n1⟩, n, _, rfl, rfl, .bl _, H', I'.tok _, rfl, q⟩
end
end Sz
/-! == and != of instances of a class without own ones -/
namespace Sz
open PySem PySem.Spec PyProof.Rows L2
structure CmpI (K : PySem.W.Frag) (C : Addr) : Prop where
  eq : PySem.W.findIn K (.ref C) "__eq__" = some (some (.builtin "object.__eq__"))
  ne : PySem.W.findIn K (.ref C) "__ne__" = some (some (.builtin "object.__ne__"))
  m : PySem.W.mroIn K C (.type "object") = some true
def cmpIB (K : PySem.W.Frag) (C : Addr) : Bool := He.eqO (PySem.W.findIn K (.ref C) "__eq__") (some (some (.builtin "object.__eq__"))) && (He.eqO (PySem.W.findIn K (.ref C) "__ne__") (some (some (.builtin "object.__ne__"))) && decide (PySem.W.mroIn K C (.type "object") = some true))
theorem cmpI_ok {K : PySem.W.Frag} {C : Addr} (h : cmpIB K C = true) : CmpI K C := by
  obtain ⟨h1, h⟩ := He.ba h
  obtain ⟨h2, h3⟩ := He.ba h
  exact ⟨He.eqO_ok h1, He.eqO_ok h2, of_decide_eq_true h3⟩
section
variable {M : Model} {prog : Program} {w : World} {A : Around} {E : Value → Shared → Prop} {s : Shared} {K : PySem.W.Frag} {x y C : Addr} {ox oy : Obj} {od od' : Option Obj}
theorem nt_of (I : PySem.W.InstAt s.heap x ox C od) : ox.cls ≠ .type "tuple" := by
  rw [I.cls]
  exact fun e => by cases e
theorem oe_same {Q : Value → Shared → Prop} (X : K.In s.heap) (I : PySem.W.InstAt s.heap x ox C od) (F0 : CmpI K C) (hq : Q (.bool true) s) : wpAny (model prog w) A (call (.builtin "object.__eq__") [.ref x, .ref x]) Q E s :=
  wpAny_call (codeAny_call_builtin F.cmp_object.eq.plain F.cmpEntry_eq (PySem.W.check_slot F.cmpKind_eq F.cmpSplit_eq (I.type.andThen (PySem.W.looks_mroIn X F0.m)) (F.cmpArgs_eq _ _) (objEq_entry_same hq)))
theorem oe_other {Q : Value → Shared → Prop} (X : K.In s.heap) (I : PySem.W.InstAt s.heap x ox C od) (J : PySem.W.InstAt s.heap y oy C od') (n : x ≠ y) (F0 : CmpI K C) (hq : Q .notImplemented s) : wpAny (model prog w) A (call (.builtin "object.__eq__") [.ref x, .ref y]) Q E s :=
  wpAny_call (codeAny_call_builtin F.cmp_object.eq.plain F.cmpEntry_eq (PySem.W.check_slot F.cmpKind_eq F.cmpSplit_eq (I.type.andThen (PySem.W.looks_mroIn X F0.m)) (F.cmpArgs_eq _ _) (objEq_entry_other n I.at_ J.at_ (nt_of I) hq)))
theorem oe_str {z : Str} {t : Tok} {Q : Value → Shared → Prop} (X : K.In s.heap) (I : PySem.W.InstAt s.heap x ox C od) (F0 : CmpI K C) (hq : Q .notImplemented s) : wpAny (model prog w) A (call (.builtin "object.__eq__") [.ref x, .str z t]) Q E s := by
  refine wpAny_call (codeAny_call_builtin F.cmp_object.eq.plain F.cmpEntry_eq (PySem.W.check_slot F.cmpKind_eq F.cmpSplit_eq (I.type.andThen (PySem.W.looks_mroIn X F0.m)) (F.cmpArgs_eq _ _) ?_))
  unfold Builtin.«object.__eq__»
  have e : ∀ {R : Bool → Shared → Prop} {M : Model} {A : Around} {E : Value → Shared → Prop}, R false s → wpAny M A (isSame (.ref x) (.str z t)) R E s := fun h => wpAny_of_eq (rfl : isSame (.ref x) (.str z t) = pure false) h
  repeat (first | with_reducible refine e ?_ | wp_step)
  exact hq
theorem ib_gen {nm : Str} {id : String} {args : List Value} {Q : Option Value → Shared → Prop} (X : K.In s.heap) (I : PySem.W.InstAt s.heap x ox C od) (hs : PySem.W.findIn K (.ref C) nm = some (some (.builtin id))) (S : Slot "object" nm id)
    (h : wpAny M A (call (.builtin id) (.ref x :: args)) (fun v => Q (some v)) E s) : wpAny M A (callSpecialIfBound? (.ref x) nm args) Q E s := by
  simp only [callSpecialIfBound?, bindSpecialIfBound?]
  refine wpAny_holding (wpAny_bind (wpAny_bind (wpAny_bind (I.type.here ((PySem.W.looks_findIn X hs).here ?_)))))
  refine wpAny_bind (wpAny_askSetting (wpAny_ite ?_))
  have fin : wpAny M A (call (.builtin id) ([.ref x] ++ args) >>= fun v => pure (some v)) Q E s := wpAny_bind (wpAny_mono h (fun _ _ q => wpAny_pure q) fun _ _ q => q)
  split
  · exact wpAny_bind (wpAny_of_eq (S.bind _) (wpAny_pure (by exact fin)))
  · exact wpAny_tryCatch (wpAny_bind (wpAny_of_eq (S.bind _) (wpAny_pure (by exact fin))))
theorem tc_same {Q : Option Value → Shared → Prop} (X : K.In s.heap) (I : PySem.W.InstAt s.heap x ox C od) (F0 : CmpI K C) (hq : Q (some (.bool true)) s) : wpAny (model prog w) A (tryCompare (.ref x) "__eq__" (.ref x)) Q E s := by
  unfold tryCompare
  exact wpAny_bind (ib_gen X I F0.eq F.cmp_object.eq (oe_same X I F0 (wpAny_pure hq)))
theorem tc_other {Q : Option Value → Shared → Prop} (X : K.In s.heap) (I : PySem.W.InstAt s.heap x ox C od) (J : PySem.W.InstAt s.heap y oy C od') (n : x ≠ y) (F0 : CmpI K C) (hq : Q none s) : wpAny (model prog w) A (tryCompare (.ref x) "__eq__" (.ref y)) Q E s := by
  unfold tryCompare
  exact wpAny_bind (ib_gen X I F0.eq F.cmp_object.eq (oe_other X I J n F0 (wpAny_pure hq)))
theorem tn_same {Q : Option Value → Shared → Prop} (hu : A.units + 1 < cLine) (X : K.In s.heap) (I : PySem.W.InstAt s.heap x ox C od) (F0 : CmpI K C) (hq : Q (some (.bool false)) s) : wpAny (model prog w) A (tryCompare (.ref x) "__ne__" (.ref x)) Q E s := by
  unfold tryCompare
  refine wpAny_bind (ib_gen X I F0.ne F.cmp_object.ne (wpAny_call (codeAny_call_builtin F.cmp_object.ne.plain F.cmpEntry_ne (PySem.W.check_slot F.cmpKind_ne F.cmpSplit_ne (I.type.andThen (PySem.W.looks_mroIn X F0.m)) (F.cmpArgs_ne _ _) ?_))))
  unfold Builtin.«object.__ne__»
  have hu1 : A.in1.units < cLine := hu
  have e : ∀ {Q' : Option Value → Shared → Prop} {E' : Value → Shared → Prop}, Q' (some (.bool true)) s → wpAny (model prog w) A.in1 (callSpecialIfBound? (.ref x) "__eq__" [.ref x]) Q' E' s := fun h => ib_gen X I F0.eq F.cmp_object.eq (oe_same X I F0 h)
  repeat (first | with_reducible refine wpAny_cRoomFor hu1 ?_ | with_reducible refine e ?_ | wp_step)
  exact hq
theorem tn_other {Q : Option Value → Shared → Prop} (hu : A.units + 1 < cLine) (X : K.In s.heap) (I : PySem.W.InstAt s.heap x ox C od) (J : PySem.W.InstAt s.heap y oy C od') (n : x ≠ y) (F0 : CmpI K C) (hq : Q none s) : wpAny (model prog w) A (tryCompare (.ref x) "__ne__" (.ref y)) Q E s := by
  unfold tryCompare
  refine wpAny_bind (ib_gen X I F0.ne F.cmp_object.ne (wpAny_call (codeAny_call_builtin F.cmp_object.ne.plain F.cmpEntry_ne (PySem.W.check_slot F.cmpKind_ne F.cmpSplit_ne (I.type.andThen (PySem.W.looks_mroIn X F0.m)) (F.cmpArgs_ne _ _) ?_))))
  unfold Builtin.«object.__ne__»
  have hu1 : A.in1.units < cLine := hu
  have e : ∀ {Q' : Option Value → Shared → Prop} {E' : Value → Shared → Prop}, Q' (some .notImplemented) s → wpAny (model prog w) A.in1 (callSpecialIfBound? (.ref x) "__eq__" [.ref y]) Q' E' s := fun h => ib_gen X I F0.eq F.cmp_object.eq (oe_other X I J n F0 h)
  repeat (first | with_reducible refine wpAny_cRoomFor hu1 ?_ | with_reducible refine e ?_ | wp_step)
  exact hq
theorem rc_same {Q : Value → Shared → Prop} (hu : A.units < cLine) (X : K.In s.heap) (I : PySem.W.InstAt s.heap x ox C od) (F0 : CmpI K C) (hq : Q (.bool true) s) : wpAny (model prog w) A (richCompare .Eq (.ref x) (.ref x)) Q E s := by
  simp only [richCompare, cmpInfo_Eq, oneThing_ref]
  refine wpAny_holding (wpAny_bind (wpAny_cRoomFor hu ?_))
  refine wpAny_bind (I.type.here (wpAny_bind (I.type.here ?_)))
  rw [if_neg (by simp)]
  repeat (first | with_reducible refine tc_same X I F0 ?_ | wp_step)
  exact hq
theorem rc_other {Q : Value → Shared → Prop} (hu : A.units < cLine) (X : K.In s.heap) (I : PySem.W.InstAt s.heap x ox C od) (J : PySem.W.InstAt s.heap y oy C od') (n : x ≠ y) (F0 : CmpI K C) (hq : Q (.bool false) s) : wpAny (model prog w) A (richCompare .Eq (.ref x) (.ref y)) Q E s := by
  simp only [richCompare, cmpInfo_Eq, oneThing_ref]
  refine wpAny_holding (wpAny_bind (wpAny_cRoomFor hu ?_))
  refine wpAny_bind (I.type.here (wpAny_bind (J.type.here ?_)))
  rw [if_neg (by simp)]
  repeat (first | with_reducible refine tc_other X I J n F0 ?_ | with_reducible refine tc_other X J I n.symm F0 ?_ | with_reducible refine wpAny_isSame_ref_other n I.at_ J.at_ (nt_of I) ?_ | wp_step)
  exact hq
theorem rn_same {Q : Value → Shared → Prop} (hu : A.units + 1 < cLine) (X : K.In s.heap) (I : PySem.W.InstAt s.heap x ox C od) (F0 : CmpI K C) (hq : Q (.bool false) s) : wpAny (model prog w) A (richCompare .NotEq (.ref x) (.ref x)) Q E s := by
  have hu0 : A.units < cLine := by omega
  simp only [richCompare, cmpInfo_NotEq, oneThing_ref]
  refine wpAny_holding (wpAny_bind (wpAny_cRoomFor hu0 ?_))
  refine wpAny_bind (I.type.here (wpAny_bind (I.type.here ?_)))
  rw [if_neg (by simp)]
  repeat (first | with_reducible refine tn_same hu X I F0 ?_ | wp_step)
  exact hq
theorem rn_other {Q : Value → Shared → Prop} (hu : A.units + 1 < cLine) (X : K.In s.heap) (I : PySem.W.InstAt s.heap x ox C od) (J : PySem.W.InstAt s.heap y oy C od') (n : x ≠ y) (F0 : CmpI K C) (hq : Q (.bool true) s) : wpAny (model prog w) A (richCompare .NotEq (.ref x) (.ref y)) Q E s := by
  have hu0 : A.units < cLine := by omega
  simp only [richCompare, cmpInfo_NotEq, oneThing_ref]
  refine wpAny_holding (wpAny_bind (wpAny_cRoomFor hu0 ?_))
  refine wpAny_bind (I.type.here (wpAny_bind (J.type.here ?_)))
  rw [if_neg (by simp)]
  repeat (first | with_reducible refine tn_other hu X I J n F0 ?_ | with_reducible refine tn_other hu X J I n.symm F0 ?_ | with_reducible refine wpAny_isSame_ref_other n I.at_ J.at_ (nt_of I) ?_ | wp_step)
  exact hq
theorem sub_strT : PySem.W.subIn K (.type "str") (.ref C) = some false := by
  have e : fastBuiltinMro "str" = some [.type "str", .type "object"] := by decide +kernel
  show (fastBuiltinMro "str").map (·.contains (.ref C)) = some false
  rw [e]
  first
    | rfl
    | simp
theorem asStr_no {M : Model} {A : Around} {E : Value → Shared → Prop} {R : Option Str → Shared → Prop} (hx : s.heap.get? x = some ox) (hd : ∀ a b, ox.data ≠ .prim (.str a b)) (h : R none s) : wpAny M A (asStr? (.ref x)) R E s := by
  unfold asStr?
  refine wpAny_bind (wpAny_load hx ?_)
  split
  · rename_i a b e
    exact absurd e (hd a b)
  · exact wpAny_pure h
theorem str_eq_call {z : Str} {t : Tok} {Q : Value → Shared → Prop} (hx : s.heap.get? x = some ox) (hd : ∀ a b, ox.data ≠ .prim (.str a b)) (hq : Q .notImplemented s) : wpAny (model prog w) A (call (.builtin "str.__eq__") [.str z t, .ref x]) Q E s := by
  refine GQ.call_here F.slot_str_eq_refl (typeIs_str s z t) F.entry_str_eq (F.args_str_eq_2 _ _) ?_
  have e : ∀ {M : Model} {A : Around} {E : Value → Shared → Prop} {R : Option Str → Shared → Prop}, R none s → wpAny M A (asStr? (.ref x)) R E s := fun h => asStr_no hx hd h
  obtain ⟨hp, g, d, tk, os⟩ := s
  repeat (first | with_reducible refine e ?_ | wp_step)
  split
  · rename_i a b e2
    exact absurd e2 (hd a b)
  · repeat wp_step
    exact hq
theorem rc_str {z : Str} {t : Tok} {Q : Value → Shared → Prop} (hu : A.units < cLine) (X : K.In s.heap) (I : PySem.W.InstAt s.heap x ox C od) (F0 : CmpI K C) (hd : ∀ a b, ox.data ≠ .prim (.str a b)) (hq : Q (.bool false) s) : wpAny (model prog w) A (richCompare .Eq (.ref x) (.str z t)) Q E s := by
  have one : wpAny (model prog w) A (tryCompare (.ref x) "__eq__" (.str z t)) (fun r s' => r = none ∧ s' = s) E s := by
    unfold tryCompare
    exact wpAny_bind (ib_gen X I F0.eq F.cmp_object.eq (oe_str X I F0 (wpAny_pure ⟨rfl, rfl⟩)))
  have two : wpAny (model prog w) A (tryCompare (.str z t) "__eq__" (.ref x)) (fun r s' => r = none ∧ s' = s) E s :=
    wpAny_tryCompare_declines (typeIs_str s z t) F.slot_str_eq_refl (str_eq_call I.at_ hd ⟨rfl, rfl, rfl⟩)
  simp only [richCompare, cmpInfo_Eq, oneThing_ref]
  refine wpAny_holding (wpAny_bind (wpAny_cRoomFor hu ?_))
  refine wpAny_bind (I.type.here ?_)
  refine wpAny_bind (wpAny_typeOf (typeIs_str s z t) ?_)
  split
  · refine wpAny_bind ((PySem.W.looks_subIn X sub_strT).here ?_)
    simp only [Bool.false_eq_true, if_false, Bool.not_false, if_true]
    refine wpAny_bind (m := tryCompare (.ref x) _ (.str z t)) (wpAny_mono one (fun r s1 q => ?_) fun _ _ q => q)
    obtain ⟨rfl, rfl⟩ := q
    refine wpAny_bind (m := tryCompare (.str z t) _ (.ref x)) (wpAny_mono two (fun r s1 q => ?_) fun _ _ q => q)
    obtain ⟨rfl, rfl⟩ := q
    exact wpAny_bind (wpAny_rule (wpAny_bind (wpAny_of_eq (rfl : isSame (.ref x) (.str z t) = pure false) (wpAny_pure hq))))
  · rename_i q
    exact absurd (by simp) q
end
section
variable {X : Cx} {C : Str}
theorem op_eqI (F0 : CmpI X.K (He.ga X.K C)) (hu : X.A.units + 64 < cLine) : OpR X (compareOp .Eq) (fun x y H Q => ∃ (p dx : Addr) (fs : List (Str × V)), x = .ref p ∧ H p = some (.ins (He.ga X.K C) dx fs) ∧
    ((∃ (q dy : Addr) (gs : List (Str × V)), y = .ref q ∧ H q = some (.ins (He.ga X.K C) dy gs) ∧ Q (.bl (decide (p = q))) H) ∨ ∃ z, y = .str z ∧ Q (.bl false) H)) := by
  intro pins s σ H x y v u Q I rx ry h
  obtain ⟨p, dx, fs, rfl, hp, h⟩ := h
  obtain rfl : v = Value.ref p := rx
  obtain ⟨m1, O1, _⟩ := ins_get I.hok hp
  obtain ⟨od1, J1, _⟩ := O1.look
  show wpAny (model X.prog X.w) X.A (richCompare .Eq (.ref p) u) (EP X pins σ Q) X.xe s
  rcases h with ⟨q, dy, gs, rfl, hq, k⟩ | ⟨z, rfl, k⟩
  · obtain rfl : u = Value.ref q := ry
    by_cases e : p = q
    · subst e
      rw [decide_eq_true rfl] at k
      exact rc_same (by omega) I.kIn J1 F0 ⟨.bl true, H, I, rfl, k⟩
    · rw [decide_eq_false e] at k
      obtain ⟨m2, O2, _⟩ := ins_get I.hok hq
      obtain ⟨od2, J2, _⟩ := O2.look
      exact rc_other (by omega) I.kIn J1 J2 e F0 ⟨.bl false, H, I, rfl, k⟩
  · obtain ⟨t, rfl⟩ := (show ∃ t, u = Value.str z t from ry)
    exact rc_str (by omega) I.kIn J1 F0 (fun a b => by simp) ⟨.bl false, H, I, rfl, k⟩
theorem op_neI (F0 : CmpI X.K (He.ga X.K C)) (hu : X.A.units + 64 < cLine) : OpR X (compareOp .NotEq) (fun x y H Q => ∃ (p dx : Addr) (fs : List (Str × V)) (q dy : Addr) (gs : List (Str × V)), x = .ref p ∧ H p = some (.ins (He.ga X.K C) dx fs) ∧
    y = .ref q ∧ H q = some (.ins (He.ga X.K C) dy gs) ∧ Q (.bl (!decide (p = q))) H) := by
  intro pins s σ H x y v u Q I rx ry h
  obtain ⟨p, dx, fs, q, dy, gs, rfl, hp, rfl, hq, k⟩ := h
  obtain rfl : v = Value.ref p := rx
  obtain rfl : u = Value.ref q := ry
  obtain ⟨m1, O1, _⟩ := ins_get I.hok hp
  obtain ⟨od1, J1, _⟩ := O1.look
  show wpAny (model X.prog X.w) X.A (richCompare .NotEq (.ref p) (.ref q)) (EP X pins σ Q) X.xe s
  by_cases e : p = q
  · subst e
    rw [decide_eq_true rfl] at k
    exact rn_same (by omega) I.kIn J1 F0 ⟨.bl false, H, I, rfl, k⟩
  · rw [decide_eq_false e] at k
    obtain ⟨m2, O2, _⟩ := ins_get I.hok hq
    obtain ⟨od2, J2, _⟩ := O2.look
    exact rn_other (by omega) I.kIn J1 J2 e F0 ⟨.bl true, H, I, rfl, k⟩
end
end Sz
/-! == of tuples and lists of instances with an own __eq__, whatever it says -/
namespace Sz
open PySem PySem.Spec PyProof.Rows L2
section
variable {prog : Program} {w : World} {A : Around} {R : Result → Shared → Prop}
/-- item by item until two differ: J holds at each turn -/
theorem tuple_eqB (l b : Addr) (us ws : Array Value) (n n2 : Nat) (dd dd2 : Option Addr) (sl sl2 : Array (Option Value)) (e : Nat → Bool) (J : Shared → Prop)
    (turn : ∀ i (h1 : i < us.size) (h2 : i < ws.size) s, J s → wpAny (model prog w) A.in1 (eqBool us[i] ws[i]) (fun r s' => r = e i ∧ J s') (fun e s' => R (.error e) s') s)
    (fin : ∀ s, J s → R (.ok (.ret (.bool ((us.size == ws.size) && (List.range us.size).all e)))) s) {s : Shared} (hl1 : s.heap.get? l = some { cls := .type "tuple", dict := dd, data := .seq us n, slots := sl }) (hb1 : s.heap.get? b = some { cls := .type "tuple", dict := dd2, data := .seq ws n2, slots := sl2 }) (h : J s) :
    wpAny (model prog w) A.in1 (Builtin.«tuple.__eq__» ⟨[.ref l, .ref b], []⟩) (GQ.FinOf prog w A R) (fun e s' => R (.error e) s') s := by
  have f2x := AutoSeq1.sub_tuple_tuple
  have hZ : (us.toList.zip ws.toList).length = min us.size ws.size := by simp
  have h0 := h
  obtain ⟨hp, g, d, tk, os⟩ := s
  wp_walk using AutoSeq1.wpAny_loadPart' hl1, AutoSeq1.wpAny_loadPart' hb1, wpAny_forIn_list _ (fun rest b s' => b.1 = none ∧ ∃ i, rest = (us.toList.zip ws.toList).drop i ∧ i ≤ min us.size ws.size ∧ (∀ j, j < i → e j = true) ∧ J s') _
  case turn =>
    rintro ⟨y, x⟩ rest b s' ⟨hb', i, hz, hi, ha, hI⟩
    have hgo : i < (us.toList.zip ws.toList).length := by
      rcases Nat.lt_or_ge i (us.toList.zip ws.toList).length with h' | h'
      · exact h'
      · rw [List.drop_of_length_le h'] at hz ; cases hz
    have h12 : i < min us.size ws.size := hZ ▸ hgo
    have h1 : i < us.size := by omega
    have h2 : i < ws.size := by omega
    rw [List.drop_eq_getElem_cons hgo] at hz ; injection hz with hpp hrest
    obtain rfl : y = us[i] := by have := congrArg Prod.fst hpp; simpa using this
    obtain rfl : x = ws[i] := by have := congrArg Prod.snd hpp; simpa using this
    refine wpAny_bind (wpAny_mono (turn i h1 h2 s' hI) (fun r s2 q2 => ?_) fun _ _ x => x)
    obtain ⟨rfl, q2⟩ := q2
    cases he : e i with
    | true =>
      wp_walk
      refine ⟨rfl, i + 1, hrest, by omega, fun j hj => ?_, q2⟩
      by_cases c : j = i
      · rw [c]
        exact he
      · exact ha j (by omega)
    | false =>
      have z := fin s2 q2
      have no : (List.range us.size).all e = false := List.all_eq_false.mpr ⟨i, List.mem_range.mpr h1, by rw [he]; decide⟩
      rw [no, Bool.and_false] at z
      wp_walk
      exact z
  case fin =>
    rintro ⟨b1, b2⟩ s' ⟨hb', i, hz, hi, ha, hI⟩
    simp only at hb'
    subst hb'
    have hge : min us.size ws.size ≤ i := by
      rcases Nat.lt_or_ge i (us.toList.zip ws.toList).length with h' | h'
      · rw [List.drop_eq_getElem_cons h'] at hz ; cases hz
      · exact hZ ▸ h'
    have z := fin s' hI
    have key : ((us.size == ws.size) && (List.range us.size).all e) = (us.size == ws.size) := by
      by_cases c : us.size = ws.size
      · have al : (List.range us.size).all e = true := List.all_eq_true.mpr fun j hj => ha j (by have := List.mem_range.mp hj; omega)
        rw [al, Bool.and_true]
      · rw [show (us.size == ws.size) = false from beq_eq_false_iff_ne.mpr c, Bool.false_and]
    rw [key] at z
    wp_walk
    exact z
  case h =>
    exact ⟨rfl, 0, rfl, Nat.zero_le _, fun j hj => absurd hj (by omega), h0⟩
theorem rc_tupB {E : Value → Shared → Prop} {l b : Addr} {us ws : Array Value} {Q : Value → Shared → Prop} (e : Nat → Bool) (hu : A.units < cLine) (J : Shared → Prop) {s : Shared} (hl : s.heap.IsTuple l us) (hb : s.heap.IsTuple b ws)
    (turn : ∀ i (h1 : i < us.size) (h2 : i < ws.size) s, J s → wpAny (model prog w) A.in1 (eqBool us[i] ws[i]) (fun r s' => r = e i ∧ J s') E s)
    (fin : ∀ s, J s → Q (.bool ((us.size == ws.size) && (List.range us.size).all e)) s) (h : J s) : wpAny (model prog w) A (richCompare .Eq (.ref l) (.ref b)) Q E s := by
  obtain ⟨⟨cls, dd, data, sl⟩, ho, hc, n, hd⟩ := id hl
  obtain ⟨⟨cls2, dd2, data2, sl2⟩, ho2, hc2, n2, hd2⟩ := id hb
  simp only at hc hd hc2 hd2 ; subst hc hd hc2 hd2
  refine wpAny_richCompare_same_room (op := .Eq) ⟨_, ho, rfl⟩ ⟨_, ho2, rfl⟩ F.slot_tuple_eq (GQ.call_here F.slot_tuple_eq ⟨_, ho, rfl⟩ F.entry_tuple_eq (F.args_tuple_eq_2 _ _) ?_) hu
  exact tuple_eqB (R := wants (fun v s' => v ≠ .notImplemented ∧ Q v s') E) l b us ws n n2 dd dd2 sl sl2 e J turn (fun s' j => ⟨(fun x => nomatch x), fin s' j⟩) ho ho2 h
/-- two lists, item by item equal: != says False -/
theorem ne_loopB (l b : Addr) (N : Nat) (I : Nat → Shared → Prop) (hl : GQ.ListI prog w A (fun e s' => R (.error e) s') l b N I) (fin : ∀ s, I N s → R (.ok (.ret (.bool false))) s) (k : Nat) :
    ∀ i : Nat, N - i = k → i ≤ N → ∀ s, I i s → wpAny (model prog w) A.in1 (Builtin.«list.__eq__.loop» ⟨[.ref l, .ref b, rawInt i, rawInt 3], []⟩) (GQ.FinOf prog w A R) (fun e s' => R (.error e) s') s := by
  induction k with
  | zero =>
    intro i hk hi s h
    obtain ⟨us, ws, n, n2, hl1, hb1, hs1, hs2, _⟩ := hl _ _ h
    have hR : R (.ok (.ret (.bool false))) s := fin s ((show i = N by omega) ▸ h)
    obtain ⟨hp, g, d, tk, os⟩ := s
    wp_walk using AutoSeq1.wpAny_loadPart' hl1, AutoSeq1.wpAny_loadPart' hb1
    have n1 : us[((i : Nat) : Int).toNat]? = none := by simp; omega
    have n3 : ws[((i : Nat) : Int).toNat]? = none := by simp; omega
    rw [n1, n3]
    wp_walk using AutoSeq1.wpAny_loadPart' hl1, AutoSeq1.wpAny_loadPart' hb1
    show R (.ok (.ret (.bool (us.size != ws.size)))) _
    rw [hs1, hs2, bne_self_eq_false]
    exact hR
  | succ k ih =>
    intro i hk hi s h
    obtain ⟨us, ws, n, n2, hl1, hb1, hs1, hs2, turn⟩ := hl _ _ h
    have q1 : i < us.size := by omega
    have q2 : i < ws.size := by omega
    have ht := turn q1 q2
    obtain ⟨hp, g, d, tk, os⟩ := s
    wp_walk using AutoSeq1.wpAny_loadPart' hl1, AutoSeq1.wpAny_loadPart' hb1
    have n1 : us[((i : Nat) : Int).toNat]? = some us[i] := by simp [q1]
    have n3 : ws[((i : Nat) : Int).toNat]? = some ws[i] := by simp [q2]
    have hc : ((i : Int) + 1) = ((i + 1 : Nat) : Int) := by omega
    rw [n1, n3]
    refine wpAny_bind (wpAny_mono ht (fun r s2 z => ?_) fun _ _ x => x)
    obtain ⟨rfl, h2⟩ := z
    have hrec := ih (i + 1) (by omega) (by omega) s2 h2
    obtain ⟨hp2, g2, d2, tk2, os2⟩ := s2
    wp_walk
    rw [hc]
    exact ⟨plainId_quiet MeetsSeq3.plain_eq_loop _, codeAny_builtin MeetsSeq3.entry_eq_loop (by rw [Around.under_plainId MeetsSeq3.plain_eq_loop _]; exact hrec)⟩
theorem rn_listB {E : Value → Shared → Prop} {l b : Addr} {N : Nat} {Q : Value → Shared → Prop} {s : Shared} (hu : A.units < cLine) (I : Nat → Shared → Prop) (hl : GQ.ListI prog w A E l b N I) (fin : ∀ s, I N s → Q (.bool false) s) (h : I 0 s) :
    wpAny (model prog w) A (richCompare .NotEq (.ref l) (.ref b)) Q E s := by
  obtain ⟨us, ws, n, n2, hl1, hb1, hs1, hs2, _⟩ := hl _ _ h
  refine wpAny_richCompare_same_room (op := .NotEq) ⟨_, hl1, rfl⟩ ⟨_, hb1, rfl⟩ F.slot_list_ne (GQ.call_here F.slot_list_ne ⟨_, hl1, rfl⟩ F.entry_list_ne (F.args_list_ne_2 _ _) ?_) hu
  have hrec := ne_loopB (A := A) (R := wants (fun v s' => v ≠ .notImplemented ∧ Q v s') E) l b N I hl (fun s' q => ⟨(fun x => nomatch x), fin s' q⟩) _ 0 rfl (Nat.zero_le _) s h
  obtain ⟨hp, g, d, tk, os⟩ := s
  have f3 := AutoSeq1.sub_list_list
  have hne : ¬ (us.size != ws.size) = true := by rw [hs1, hs2]; simp
  wp_walk using AutoSeq1.wpAny_loadPart' hl1, AutoSeq1.wpAny_loadPart' hb1
  exact ⟨plainId_quiet MeetsSeq3.plain_eq_loop _, codeAny_builtin MeetsSeq3.entry_eq_loop (by rw [Around.under_plainId MeetsSeq3.plain_eq_loop _]; exact hrec)⟩
end
/-- == within a container: what it says, with nothing changed that is tracked -/
def EqB (X : Cx) (n : Nat) (D : V → V → Hp → Bool → Prop) : Prop := ∀ (A : Around) (pins : List (Addr × Obj)) (s : Shared) (σ : L2.St) (H : Hp) (x y : V) (u v : Value) (r : Bool), Sub X n A → Inv X pins σ H s → RelV x u → RelV y v → D x y H r →
  wpAny (model X.prog X.w) A (eqBool u v) (fun q s' => q = r ∧ Inv X pins σ H s') X.xe s
/-- two instances of C, compared by its own __eq__ -/
def BIns (K : PySem.W.Frag) (C : Str) (sp : Sp) (E : XK) : V → V → Hp → Bool → Prop := fun x y H r => ∃ (a b dx dy : Addr) (fs gs : List (Str × V)), x = .ref a ∧ y = .ref b ∧ H a = some (.ins (He.ga K C) dx fs) ∧ H b = some (.ins (He.ga K C) dy gs) ∧ (a = b → r = true) ∧ sp [.ref a, .ref b] H (fun v H2 => v = .bl r ∧ H2 = H) E
section
variable {X : Cx} {CX : CXT} {k n : Nat} {C : Str} {ps : List Str} {sp : Sp} {E : XK}
theorem eqB_ins (G : PromM X.prog X.w X.K X.mg X.base CX k C "__eq__" ps sp) (hx : Passes CX X E) : EqB X k (BIns X.K C sp E) := by
  intro A pins s σ H x y u v r sb I rx ry h
  obtain ⟨a, b, dx, dy, fs, gs, rfl, rfl, ha, hb, same, h⟩ := h
  obtain rfl : u = Value.ref a := rx
  obtain rfl : v = Value.ref b := ry
  by_cases e : a = b
  · subst e
    rw [same rfl]
    exact SeqAt.EqAt.same (A := A) (s := s) (.ref a) X.prog X.w X.xe _ ⟨rfl, I⟩
  · refine GQ.eqBool_refG e ?_
    obtain ⟨m1, O1, _⟩ := ins_get I.hok ha
    obtain ⟨od1, J1, _⟩ := O1.look
    obtain ⟨m2, O2, _⟩ := ins_get I.hok hb
    obtain ⟨od2, J2, _⟩ := O2.look
    obtain ⟨m, hF⟩ := I.fr
    refine PySem.W.cmp_K (op := .Eq) (tb := .ref (He.ga X.K C)) sb.room.units0 hF I.ok.mod.kin J1 J2.type (by simp [PySem.W.notFirst]) G.me.at_ G.me.fn ?_
    refine wpAny_mono (run_own G hx (A := A) ⟨sb.room, sb.fr⟩ (vs := [.ref a, .ref b]) (us := [.ref a, .ref b]) I (.cons rfl (.cons rfl .nil)) h) (fun v s' z => ?_) fun _ _ y => y
    obtain ⟨z, H', I', rz, rfl, rfl⟩ := z
    cases rz
    exact ⟨r, rfl, rfl, I'⟩
theorem items_B {D : V → V → Hp → Bool → Prop} (hD : EqB X n D) {A : Around} (sb : Sub X (n + 1) A) {pins : List (Addr × Obj)} {σ : L2.St} {H : Hp} {xs ys : List V} {its its2 : List Value} {e : Nat → Bool} (p : ∀ (i : Nat) x y, xs[i]? = some x → ys[i]? = some y → D x y H (e i)) (r : Vals xs its) (r2 : Vals ys its2)
    (i : Nat) (h1 : i < its.toArray.size) (h2 : i < its2.toArray.size) (s' : Shared) (I : Inv X pins σ H s') : wpAny (model X.prog X.w) A.in1 (eqBool its.toArray[i] its2.toArray[i]) (fun q s2 => q = e i ∧ Inv X pins σ H s2) X.xe s' := by
  have g1 : its[i]? = some its.toArray[i] := by rw [List.getElem?_eq_getElem (by simpa using h1)] <;> simp
  have g2 : its2[i]? = some its2.toArray[i] := by rw [List.getElem?_eq_getElem (by simpa using h2)] <;> simp
  have k1 : i < xs.length := by rw [r.length]; simpa using h1
  have k2 : i < ys.length := by rw [r2.length]; simpa using h2
  obtain ⟨u, hu, ru⟩ := r.get (List.getElem?_eq_getElem k1)
  obtain ⟨v, hv, rv⟩ := r2.get (List.getElem?_eq_getElem k2)
  rw [g1] at hu ; rw [g2] at hv
  cases hu ; cases hv
  exact hD A.in1 pins s' σ H _ _ _ _ _ sb.in1 I ru rv (p i _ _ (List.getElem?_eq_getElem k1) (List.getElem?_eq_getElem k2))
/-- t == u of tuples -/
def rEqTB (K : PySem.W.Frag) (D : V → V → Hp → Bool → Prop) : R2 := fun x y H Q => ∃ (a b : Addr) (xs ys : List V) (e : Nat → Bool), x = .ref a ∧ y = .ref b ∧ SqT K H a xs ∧ SqT K H b ys ∧ (∀ (i : Nat) x y, xs[i]? = some x → ys[i]? = some y → D x y H (e i)) ∧ Q (.bl ((xs.length == ys.length) && (List.range xs.length).all e)) H
theorem op_eqTB {D : V → V → Hp → Bool → Prop} (hD : EqB X n D) (hr : Room (n + 1) X.A) : OpR X (compareOp .Eq) (rEqTB X.K D) := by
  intro pins s σ H x y v u Q I rx ry h
  obtain ⟨a, b, xs, ys, e, rfl, rfl, ha, hb, p, q⟩ := h
  obtain rfl : v = Value.ref a := rx
  obtain rfl : u = Value.ref b := ry
  obtain ⟨its, r, t1, _⟩ := I.tuple ha
  obtain ⟨its2, r2, t2, _⟩ := I.tuple hb
  have sb : Sub X (n + 1) X.A := ⟨hr, rfl⟩
  refine rc_tupB e hr.units0 (fun s' => Inv X pins σ H s') t1 t2 (fun i h1 h2 s' j => items_B hD sb p r r2 i h1 h2 s' j) (fun s' j => ?_) I
  refine ⟨.bl _, H, j, ?_, q⟩
  rw [List.size_toArray, List.size_toArray, ← r.length, ← r2.length]
  rfl
/-- l != m of lists that are equal item by item -/
def rNeLB (K : PySem.W.Frag) (D : V → V → Hp → Bool → Prop) : R2 := fun x y H Q => ∃ (a b : Addr) (xs ys : List V), x = .ref a ∧ y = .ref b ∧ H a = some (.lst xs) ∧ H b = some (.lst ys) ∧ xs.length = ys.length ∧ (∀ (i : Nat) x y, xs[i]? = some x → ys[i]? = some y → D x y H true) ∧ Q (.bl false) H
theorem op_neLB {D : V → V → Hp → Bool → Prop} (hD : EqB X n D) (hr : Room (n + 1) X.A) : OpR X (compareOp .NotEq) (rNeLB X.K D) := by
  intro pins s σ H x y v u Q I rx ry h
  obtain ⟨a, b, xs, ys, rfl, rfl, ha, hb, hl, p, q⟩ := h
  obtain rfl : v = Value.ref a := rx
  obtain rfl : u = Value.ref b := ry
  have sb : Sub X (n + 1) X.A := ⟨hr, rfl⟩
  refine rn_listB (N := xs.length) hr.units0 (fun _ s' => Inv X pins σ H s') (fun i s' j => ?_) (fun s' j => ⟨.bl false, H, j, rfl, q⟩) I
  obtain ⟨z, its, k, r, e⟩ := j.hok a _ ha
  obtain ⟨z2, its2, k2, r2, e2⟩ := j.hok b _ hb
  refine ⟨its.toArray, its2.toArray, k, k2, e, e2, by rw [List.size_toArray, ← r.length], by rw [List.size_toArray, ← r2.length, ← hl], fun h1 h2 => ?_⟩
  exact items_B hD sb (e := fun _ => true) p r r2 i h1 h2 s' j
end
end Sz
/-! x in a list of texts, integers, None and tuples, where x has an own __eq__ -/
namespace Sz
open PySem PySem.Spec PyProof.Rows L2
structure NoSub (K : PySem.W.Frag) (C : Addr) : Prop where
  s : PySem.W.mroIn K C (.type "str") = some false
  t : PySem.W.mroIn K C (.type "tuple") = some false
  i : PySem.W.mroIn K C (.type "int") = some false
  n : PySem.W.mroIn K C (.type "NoneType") = some false
def noSubB (K : PySem.W.Frag) (C : Addr) : Bool := ["str", "tuple", "int", "NoneType"].all fun z => decide (PySem.W.mroIn K C (.type z) = some false)
theorem noSub_ok {K : PySem.W.Frag} {C : Addr} (h : noSubB K C = true) : NoSub K C := by
  have k := fun z hz => of_decide_eq_true (List.all_eq_true.mp h z hz)
  exact ⟨k _ (by simp), k _ (by simp), k _ (by simp), k _ (by simp)⟩
section
variable {prog : Program} {w : World} {A : Around} {E : Value → Shared → Prop} {s : Shared} {K : PySem.W.Frag} {x C f : Addr} {ox : Obj} {od : Option Obj}
theorem isInst_no {M : Model} {A : Around} {E : Value → Shared → Prop} {T : String} {R : Bool → Shared → Prop} (X : K.In s.heap) (I : PySem.W.InstAt s.heap x ox C od) (hm : PySem.W.mroIn K C (.type T) = some false) (h : R false s) : wpAny M A (isInstance (.ref x) (.type T)) R E s := by
  unfold isInstance
  exact wpAny_bind (I.type.here ((PySem.W.looks_mroIn X hm).here h))
theorem tup_declines {t : Addr} {ot : Obj} {Q : Value → Shared → Prop} (ht : s.heap.get? t = some ot) (hc : ot.cls = .type "tuple") (X : K.In s.heap) (I : PySem.W.InstAt s.heap x ox C od) (N : NoSub K C) (hq : Q .notImplemented s) : wpAny (model prog w) A (call (.builtin "tuple.__eq__") [.ref t, .ref x]) Q E s := by
  refine GQ.call_here F.slot_tuple_eq ⟨ot, ht, hc⟩ F.entry_tuple_eq (F.args_tuple_eq_2 _ _) ?_
  have e : ∀ {M : Model} {A : Around} {E : Value → Shared → Prop} {R : Bool → Shared → Prop}, R false s → wpAny M A (isInstance (.ref x) (.type "tuple")) R E s := fun h => isInst_no X I N.t h
  obtain ⟨hp, g, d, tk, os⟩ := s
  repeat (first | with_reducible refine e ?_ | wp_step)
  all_goals first | exact hq | trace_state
theorem int_declines {i : Int} {t : Tok} {Q : Value → Shared → Prop} (X : K.In s.heap) (I : PySem.W.InstAt s.heap x ox C od) (N : NoSub K C) (hd : ∀ a, ox.data ≠ .prim a) (hq : Q .notImplemented s) : wpAny (model prog w) A (call (.builtin "int.__eq__") [.int i t, .ref x]) Q E s := by
  refine GQ.call_here F.slot_int_eq (show s.TypeIs (.int i t) "int" from rfl) F.entry_int_eq (F.args_int_eq_2 _ _) ?_
  have hx := I.at_
  obtain ⟨hp, g, d, tk, os⟩ := s
  wp_walk using AutoSeq1.wpAny_loadPart' hx, wpAny_load hx
  split
  · rename_i a b e
    exact absurd e (hd _)
  · repeat wp_step
    exact hq
theorem rc_left {u : Value} {T : String} {Q : Value → Shared → Prop} (hu : A.units < cLine) (X : K.In s.heap) (I : PySem.W.InstAt s.heap x ox C od) (hT : s.TypeIs u T) (hm : PySem.W.mroIn K C (.type T) = some false) (h1 : oneThing? .Eq u (.ref x) = none)
    (one : wpAny (model prog w) A (tryCompare u "__eq__" (.ref x)) (fun r s' => r = none ∧ s' = s) E s) (hs : PySem.W.findIn K (.ref C) "__eq__" = some (some (.ref f))) (hf : PySem.W.isFn K (.ref f) = true)
    (h : wpAny (model prog w) A (call (.ref f) [.ref x, u]) (PySem.W.CmpBack Q) E s) : wpAny (model prog w) A (richCompare .Eq u (.ref x)) Q E s := by
  have two : wpAny (model prog w) A (tryCompare (.ref x) "__eq__" u) (fun r s' => ∃ v, r = some v ∧ Q v s') E s := by
    unfold tryCompare
    refine wpAny_bind (PySem.W.ifBound_K X I hs hf (wpAny_mono h (fun v s' hv => ?_) fun _ _ e => e))
    cases v <;> first | exact hv.elim | exact wpAny_pure ⟨_, rfl, hv⟩
  simp only [richCompare, cmpInfo_Eq, h1]
  refine wpAny_holding (wpAny_bind (wpAny_cRoomFor hu ?_))
  refine wpAny_bind (wpAny_typeOf hT ?_)
  refine wpAny_bind (I.type.here ?_)
  split
  · refine wpAny_bind ((PySem.W.looks_mroIn X hm).here ?_)
    simp only [Bool.false_eq_true, if_false, Bool.not_false, if_true]
    refine wpAny_bind (m := tryCompare u _ (.ref x)) (wpAny_mono one (fun r s1 q => ?_) fun _ _ q => q)
    obtain ⟨rfl, rfl⟩ := q
    refine wpAny_bind (m := tryCompare (.ref x) _ u) (wpAny_mono two (fun r s2 q => ?_) fun _ _ q => q)
    obtain ⟨v, rfl, q⟩ := q
    exact wpAny_pure q
  · rename_i q
    exact absurd (by simp) q
end
section
variable {X : Cx} {CX : CXT} {k : Nat} {C : Str} {ps : List Str} {sp : Sp} {E : XK}
/-- no instance of an own class -/
def Plain4 (K : PySem.W.Frag) (H : Hp) (z : V) : Prop := z = .non ∨ (∃ i, z = .int i) ∨ (∃ y, z = .str y) ∨ ∃ (a : Addr) (xs : List V), z = .ref a ∧ SqT K H a xs
theorem eqB_left (G : PromM X.prog X.w X.K X.mg X.base CX k C "__eq__" ps sp) (N : NoSub X.K (He.ga X.K C)) (hx : Passes CX X E) {A : Around} (sb : Sub X k A) {pins : List (Addr × Obj)} {σ : L2.St} {H : Hp} {s : Shared} {z : V} {u : Value} {p dx : Addr} {fs : List (Str × V)} (I : Inv X pins σ H s) (rz : RelV z u)
    (hp : H p = some (.ins (He.ga X.K C) dx fs)) (hz : Plain4 X.K H z) (h : sp [.ref p, z] H (fun v H2 => v = .bl false ∧ H2 = H) E) : wpAny (model X.prog X.w) A (eqBool u (.ref p)) (fun b s' => b = false ∧ Inv X pins σ H s') X.xe s := by
  obtain ⟨m1, O1, _⟩ := ins_get I.hok hp
  obtain ⟨od1, J1, _⟩ := O1.look
  have own : wpAny (model X.prog X.w) A (call (.ref (He.ma X.K (He.ga X.K C) "__eq__")) [.ref p, u]) (PySem.W.CmpBack fun v s' => v = .bool false ∧ Inv X pins σ H s') X.xe s := by
    refine wpAny_mono (run_own G hx (A := A) ⟨sb.room, sb.fr⟩ (vs := [.ref p, z]) (us := [.ref p, u]) I (.cons rfl (.cons rz .nil)) h) (fun v s' q => ?_) fun _ _ y => y
    obtain ⟨q1, H', I', rq, rfl, rfl⟩ := q
    cases rq
    exact ⟨rfl, I'⟩
  have go : ∀ (ne : u ≠ .ref p), wpAny (model X.prog X.w) A (richCompare .Eq u (.ref p)) (fun v s' => v = .bool false ∧ Inv X pins σ H s') X.xe s → wpAny (model X.prog X.w) A (eqBool u (.ref p)) (fun b s' => b = false ∧ Inv X pins σ H s') X.xe s := fun ne q => by
    unfold eqBool
    refine wpAny_holding (wpAny_ite_split (fun e => absurd (eq_of_beq e) ne) fun _ => ?_)
    have fin : ∀ (v : Value) (s' : Shared), v = .bool false ∧ Inv X pins σ H s' → wpAny (model X.prog X.w) A (truthOfDropped v) (fun b s' => b = false ∧ Inv X pins σ H s') X.xe s' := fun v s' j => by
      obtain ⟨rfl, j⟩ := j
      exact wpAny_truthy_bool ⟨rfl, j⟩
    cases u <;> exact wpAny_bind (wpAny_mono q (fun v s' j => fin v s' j) fun _ _ x => x)
  rcases hz with rfl | ⟨i, rfl⟩ | ⟨y, rfl⟩ | ⟨a, xs, rfl, ht⟩
  · obtain rfl : u = Value.none := rz
    refine go nofun (rc_left (T := "NoneType") sb.room.units0 I.kIn J1 rfl N.n rfl ?_ G.me.at_ G.me.fn own)
    exact wpAny_tryCompare_declines (show s.TypeIs .none "NoneType" from rfl) F.slot_NoneType_eq (call_gives F.slot_NoneType_eq rfl F.entry_NoneType_eq (F.args_NoneType_eq_2 _ _) (SeqAt.NoneType___eq___none_ref_0 p) ⟨rfl, rfl, rfl⟩)
  · obtain ⟨t, rfl⟩ := (show ∃ t, u = Value.int i t from rz)
    refine go nofun (rc_left (T := "int") sb.room.units0 I.kIn J1 rfl N.i rfl ?_ G.me.at_ G.me.fn own)
    exact wpAny_tryCompare_declines (show s.TypeIs (.int i t) "int" from rfl) F.slot_int_eq (int_declines I.kIn J1 N (fun a => by simp) ⟨rfl, rfl, rfl⟩)
  · obtain ⟨t, rfl⟩ := (show ∃ t, u = Value.str y t from rz)
    refine go nofun (rc_left (T := "str") sb.room.units0 I.kIn J1 (typeIs_str s y t) N.s rfl ?_ G.me.at_ G.me.fn own)
    exact wpAny_tryCompare_declines (typeIs_str s y t) F.slot_str_eq (str_eq_call J1.at_ (fun a b => by simp) ⟨rfl, rfl, rfl⟩)
  · obtain rfl : u = Value.ref a := rz
    obtain ⟨its, rv, ⟨o, ho, hcl, na, hd⟩, _⟩ := I.tuple ht
    have ne : a ≠ p := fun e => by
      subst e
      have e1 := J1.at_
      rw [ho] at e1
      cases e1
      exact absurd hcl (nt_of J1)
    refine go (fun e => ne (by injection e)) (rc_left (T := "tuple") sb.room.units0 I.kIn J1 ⟨o, ho, hcl⟩ N.t rfl ?_ G.me.at_ G.me.fn own)
    exact wpAny_tryCompare_declines ⟨o, ho, hcl⟩ F.slot_tuple_eq (tup_declines ho hcl I.kIn J1 N ⟨rfl, rfl, rfl⟩)
/-- x in [..]: none of them is it -/
theorem op_inB (G : PromM X.prog X.w X.K X.mg X.base CX k C "__eq__" ps sp) (N : NoSub X.K (He.ga X.K C)) (hr : Room (k + 1) X.A) (hx : Passes CX X E) : OpR X (compareOp .In) (fun x y H Q => ∃ (p dx : Addr) (fs : List (Str × V)) (l : Addr) (ys : List V), x = .ref p ∧ H p = some (.ins (He.ga X.K C) dx fs) ∧ y = .ref l ∧ H l = some (.lst ys) ∧
    (∀ z ∈ ys, Plain4 X.K H z ∧ sp [.ref p, z] H (fun v H2 => v = .bl false ∧ H2 = H) E) ∧ Q (.bl false) H) := by
  intro pins s σ H x y v u Q I rx ry h
  obtain ⟨p, dx, fs, l, ys, rfl, hp, rfl, hl, hy, q⟩ := h
  obtain rfl : v = Value.ref p := rx
  obtain rfl : u = Value.ref l := ry
  refine SeqAt.in_listG (N := ys.length) (fun _ => false) (fun s' => Inv X pins σ H s') ?_ I ?_
  · intro s' j
    obtain ⟨z, its, n, r, ho⟩ := j.hok l _ hl
    refine ⟨its.toArray, n, _, _, ho, by rw [List.size_toArray, ← r.length], fun i y hi => ?_⟩
    have hi : its[i]? = some y := by simpa using hi
    have k1 : i < ys.length := by
      have := (List.getElem?_eq_some_iff.mp hi).1
      rw [r.length]
      exact this
    obtain ⟨u, hu, ru⟩ := r.get (List.getElem?_eq_getElem k1)
    rw [hi] at hu
    cases hu
    obtain ⟨h1, h2⟩ := hy _ (List.getElem_mem k1)
    exact eqB_left G N hx ⟨hr.in1, rfl⟩ j ru hp h1 h2
  · intro s' j
    rw [show (List.range' 0 ys.length).any (fun _ => false) = false from List.any_eq_false.mpr fun _ _ => by simp]
    exact ⟨.bl false, H, j, rfl, q⟩
end
end Sz
/-! raise C() of an own class without __init__; C(k = v) -/
namespace Sz
open PySem PySem.Spec PyProof.Rows L2
/-- an own error class without __init__: base b (0 ValueError, 1 LookupError, 2 ArithmeticError) -/
def err0B (K : PySem.W.Frag) (b : Nat) (C : Addr) : Bool := PySem.W.excIn K C (etail b) (ebase b ++ ".__new__") && (PySem.W.keepIn K (.ref C) && (decide (PySem.W.subIn K (.ref C) (.type "BaseException") = some true) && decide (PySem.W.typeIn K (.ref C) = some (.type "type"))))
section
variable {X : Cx} {x : Str} {p pos rpos : Pos} {W : WX} {C : Addr} {bmB : List Value} {B newId initId : String}
theorem pmk_own0 (F : ExcBaseFacts B newId initId bmB) (q : PySem.W.excIn X.K C bmB newId = true) (gC : X.mg x = some (.ref C)) (kC : PySem.W.keepIn X.K (.ref C) = true) (r : Raises X (.ref C)) (hg : Gl X x)
    (hdb : (x == ("__debug__" : Str)) = false := by decide) : PMk X (.Call (.Name x p) [] [] pos) (fun _ H Q => Q (.ref C) none H) := by
  intro pins s σ H Q I h
  refine wpAny_Call_Name_kw (ld_glob I hg gC ?_ hdb)
  refine PySem.W.callWith_K0 I.kIn kC ?_
  show wpAny _ _ (call (.ref C) []) _ _ _
  obtain ⟨bm, N, nm, qn, bs, hdct, sn, sub, ab, col, dd, k0, k1, k2, k3, k5, mN, hC, hN, hni, T⟩ := exc_obj I.kIn q
  refine wpAny_call_exc_subT F T hC hN hni (fun h' e hm => ?_) (by show 0 ≤ sizeLine; exact Nat.zero_le _)
  exact mk_of I hm r h (I.hok.gone hm.new)
/-- raise C() -/
theorem ps_raise0 (b : Nat) (q : err0B X.K b (He.ga X.K x) = true) (gC : X.mg x = some (.ref (He.ga X.K x))) (hg : Gl X x) (tk : Takes X W) (hc : X.calm = true := by rfl)
    (hdb : (x == ("__debug__" : Str)) = false := by decide) : PS X (.Raise (some (.Call (.Name x p) [] [] pos)) none rpos) (fun _ σ H => W (.ref (He.ga X.K x)) none σ H) := by
  obtain ⟨h1, h2⟩ := He.ba (show (_ && _) = true from q)
  obtain ⟨h2, h3⟩ := He.ba h2
  obtain ⟨h3, h4⟩ := He.ba h3
  have r : Raises X (.ref (He.ga X.K x)) := raises_own (of_decide_eq_true h3) (of_decide_eq_true h4)
  match b, h1 with
  | 0, h1 => exact ps_raise hc tk (pmk_own0 PySem.F.excBase_ValueError h1 gC h2 r hg hdb)
  | 1, h1 => exact ps_raise hc tk (pmk_own0 PySem.F.excBase_LookupError h1 gC h2 r hg hdb)
  | n + 2, h1 => exact ps_raise hc tk (pmk_own0 PySem.F.excBase_ArithmeticError h1 gC h2 r hg hdb)
end
/-- str of an instance by its own __str__, for comprehensions -/
def rStrO (K : PySem.W.Frag) (C : Str) (sp : Sp) (E : XK) : List V → Hp → VK → Prop := fun xs H Q => ∃ p dx fs, xs = [.ref p] ∧ H p = some (.ins (He.ga K C) dx fs) ∧ sp [.ref p] H (fun v H2 => ∃ y : Str, v = .str y ∧ Q (.str y) H2) E
/-! ### C(k = v) -/
structure PromCD (P : Program) (w : World) (K : PySem.W.Frag) (mg : Str → Option Value) (base : Heap) (CX : CXT) (k : Nat) (C q : Str) (st : Stmt) (ps : List Str) (sp : Sp) : Prop where
  make : Mk K (He.ga K C) (He.ma K (He.ga K C) "__init__")
  mg_ : mg C = some (.ref (He.ga K C))
  ex : ∃ sp0 fd, FnOk P w K mg base CX k (He.ma K (He.ga K C) "__init__") fd ps sp0 ∧ Binds K fd ps [] ∧ FunD K "__init__" q (defArgs st) (defBody st) (defScope st) [] [] (He.ma K (He.ga K C) "__init__") fd ∧
    ∀ vs H Q E, sp vs H Q E → ∀ x dx, H x = none → H dx = none → dx ≠ x → sp0 (V.ref x :: vs) (upd (upd H dx (.own x)) x (.ins (He.ga K C) dx [])) (fun v H2 => v = .non ∧ Q (.ref x) H2) E
section
variable {P : Program} {w : World} {K : PySem.W.Frag} {mg : Str → Option Value} {base : Heap}
theorem PromCD.c {CX : CXT} {k : Nat} {C q : Str} {st : Stmt} {ps : List Str} {sp : Sp} (h : PromCD P w K mg base CX k C q st ps sp) : PromC P w K mg base CX k C sp := by
  obtain ⟨sp0, fd, F1, b, _, hs⟩ := h.ex
  refine ⟨h.make, h.mg_, _, F1.raw b .nil, fun vs H Q E h x dx hx hdx ne => ?_⟩
  rw [List.append_nil]
  exact hs vs H Q E h x dx hx hdx ne
theorem PromCD.plainX {C q : Str} {st : Stmt} {N ps : List Str} {sp sp0 : Sp} {k : Nat} (mk : Mk K (He.ga K C) (He.ma K (He.ga K C) "__init__")) (hm : mg C = some (.ref (He.ga K C))) (D : DefAtM K C "__init__" q st) (S : FnScope N ps (defScope st))
    (len : ∀ vs H Q E, sp0 vs H Q E → vs.length = ps.length)
    (hb : ∀ (kV doc pm : Value) (an : Option Addr) (cdv ct : Value) (us : List Value), us.length = ps.length → bindArgs (PySem.W.fnOf "__init__" q (defArgs st) (defBody st) (defScope st) .none kV doc pm an cdv ct) ⟨us, []⟩ = pure (ps.zip us))
    (hbody : ∀ (f : Addr) (cdv : Value) (A : Around) (outer : List Env) (s : Shared) (H : Hp) (vs : List V) (Q : VK) (E : XK), Room k (A.deeper (envOfC q (defScope st) s.heap.objs.size f cdv)) → sp0 vs H Q E →
      ∃ t, PSs (cxOf (L2.CX P w) P w K mg base N q (defScope st) f cdv A outer s H E) (defBody st) t ∧ t { nx := fun _ H' => Q .non H', rt := Q } (start N vs) H)
    (hsp : ∀ vs H Q E, sp vs H Q E → ∀ x dx, H x = none → H dx = none → dx ≠ x → sp0 (.ref x :: vs) (upd (upd H dx (.own x)) x (.ins (He.ga K C) dx [])) (fun u H2 => u = .non ∧ Q (.ref x) H2) E) :
    PromCD P w K mg base (L2.CX P w) (k + 1) C q st ps sp := by
  obtain ⟨fd, F⟩ := D
  have F1 : FnOk P w K mg base (L2.CX P w) (k + 1) (He.ma K (He.ga K C) "__init__") fd ps sp0 := F.ok S len (fun cdv A outer s H vs Q E hr hs => hbody _ cdv A outer s H vs Q E hr hs)
  exact ⟨mk, hm, sp0, fd, F1, F.bindsN hb, F, hsp⟩
end
section
variable {P : Program} {w : World} {K : PySem.W.Frag} {mg : Str → Option Value} {base : Heap}
theorem PromMD.ofX {C m q : Str} {st : Stmt} {ps N : List Str} {sp : Sp} {k : Nat} (cl : Cls K (He.ga K C)) (me : Meth K (He.ga K C) m (He.ma K (He.ga K C) m)) (D : DefAtM K C m q st) (S : FnScope N ps (defScope st)) (len : ∀ vs H Q E, sp vs H Q E → vs.length = ps.length)
    (hb : ∀ (kV doc pm : Value) (an : Option Addr) (cdv ct : Value) (us : List Value), us.length = ps.length → bindArgs (PySem.W.fnOf m q (defArgs st) (defBody st) (defScope st) .none kV doc pm an cdv ct) ⟨us, []⟩ = pure (ps.zip us))
    (hbody : ∀ (f : Addr) (cdv : Value) (A : Around) (outer : List Env) (s : Shared) (H : Hp) (vs : List V) (Q : VK) (E : XK), Room k (A.deeper (envOfC q (defScope st) s.heap.objs.size f cdv)) → sp vs H Q E →
      ∃ t, PSs (cxOf (L2.CX P w) P w K mg base N q (defScope st) f cdv A outer s H E) (defBody st) t ∧ t { nx := fun _ H' => Q .non H', rt := Q } (start N vs) H) :
    PromMD P w K mg base (L2.CX P w) (k + 1) C m q st ps sp := by
  obtain ⟨fd, F⟩ := D
  exact ⟨cl, me, fd, F.ok S len (fun cdv A outer s H vs Q E hr hs => hbody _ cdv A outer s H vs Q E hr hs), F.bindsN hb, F⟩
end
/-- the new object's promise, in the arguments alone -/
def tNewK (sp : Sp) (E : XK) (tk : TA) : TE := fun σ H Q => tk σ H fun zs H2 => zs.length = 1 ∧ sp zs H2 Q E
section
variable {X : Cx} {CX : CXT} {k : Nat} {x q : Str} {st : Stmt} {ps ks : List Str} {sp : Sp} {E : XK} {p pos : Pos} {kws : List Keyword} {tk : TA}
theorem pe_newKP (G : PromCD X.prog X.w X.K X.mg X.base CX k x q st ps sp) (hr : Room (k + 1) X.A) (hg : Gl X x) (hne : ps.length = 2) (hk1 : ks.length = 1)
    (hb : ∀ (kV doc pm : Value) (an : Option Addr) (cdv ct u w : Value), bindArgs (PySem.W.fnOf "__init__" q (defArgs st) (defBody st) (defScope st) .none kV doc pm an cdv ct) ⟨[u], ks.zip [w]⟩ = pure (ps.zip [u, w]))
    (hx : Passes CX X E) (hkw : PK X kws tk) (hall : (backToKw pos (keywordEach kws X.env)).all (·.1.isSome) = true := by rfl) (hks : (backToKw pos (keywordEach kws X.env)).filterMap (·.1) = ks := by rfl)
    (hdb : (x == ("__debug__" : Str)) = false := by decide) (hpl : ((backTo pos (starEach [] X.env)).any (·.1) || (backToKw pos (keywordEach kws X.env)).any (·.1.isNone)) = false := by rfl) :
    PE X (.Call (.Name x p) [] kws pos) (tNewK sp E tk) := by
  obtain ⟨sp0, fd, F, _, D, hs⟩ := G.ex
  have kb := kb_two hne hb D
  have kn : KBn X.K fd ps 1 ks two1 two1 := ⟨fun s us ws i h1 h2 => kb.to s us ws i (by
    rw [hk1] at h2
    match us, ws, h1, h2 with
    | [_], [_], _, _ => rw [hne]; rfl), kb.rel⟩
  refine ⟨fun pins s σ H Q I h => ?_⟩
  refine wpAny_Call_Name_kw (ld_glob I hg G.mg_ ?_ hdb)
  refine PySem.W.callWith_KW0 (h₀ := X.base) I.ok.mod.kin G.make.kp hall ?_ hpl
  refine thn (hkw.run pos pins s σ H _ I h) fun ws s2 ⟨zs, H2, I2, rz, l2, q2⟩ => ⟨I2.kIn, ?_⟩
  rw [hks]
  refine run_makeK (us := []) (vs := []) G.make F hr kn hx I2 .nil rz rfl (l2.trans hk1.symm) (fun y dy h1 h2 h3 => ?_)
  match zs, l2, q2 with
  | [z], _, q2 => exact hs [z] H2 Q E q2 y dy h1 h2 h3
end
end Sz
/-! d[k] as one of several targets -/
namespace Sz
open PySem PySem.Spec PyProof.Rows L2
def tSetD : TSet := fun x y v H Q => ∃ (a : Addr) (H' : Hp), x = .ref a ∧ DPut H a y v H' ∧ Q H'
theorem set_dict {X : Cx} (hu : X.A.units + 1 < cLine) : PSet X tSetD := by
  intro pins s σ H o i v ov iv u Q I ro ri rv h
  obtain ⟨a, H', rfl, g, q⟩ := h
  obtain rfl : ov = Value.ref a := ro
  exact d_setItem hu I g ri rv fun s' I' => ⟨H', I', q⟩
end Sz
/-! x.replace of written texts within a list whose first item writes a text -/
namespace Sz
open PySem PySem.Spec PyProof.Rows L2
/-- behind it a token is out -/
def PE1 (X : Cx) (e : Expr) (t : TE) : Prop := ∀ (pins : List (Addr × Obj)) (s : Shared) (σ : L2.St) (H : Hp) (Q : VK), Inv X pins σ H s → t σ H Q → wpAny (model X.prog X.w) X.A (eval e X.env) (fun v s1 => 1 ≤ s1.toks ∧ EP X pins σ Q v s1) X.xe s
section
variable {X : Cx} {e : Expr} {es : List Expr} {te t : TE} {ta : TA} {r : R2} {y : Str} {j : Nat} {cp pos : Pos} {op : Operator}
theorem pe1_op (ho : OpR X (binaryOp op) r) (ha : PE X e te) : PE1 X (.BinOp e op (.Constant (.str y) j cp) pos) (tOp r te (tC (.str y))) := by
  intro pins s σ H Q I h
  refine wpAny_BinOp (thn (ha.run pins s σ H _ I h) fun v s1 q => ?_)
  obtain ⟨x, H1, I1, r1, q1⟩ := q
  refine Calls.Constant_str ?_
  have := ho pins { s1 with toks := s1.toks + 1 } σ H1 x (.str y) v (Value.str y s1.toks) Q (I1.tok (s1.toks + 1)) r1 ⟨s1.toks, rfl⟩ q1
  refine wpAny_mono (PySem.wpAny_toks this) (fun u s2 q => ?_) fun _ _ z => z.2
  have hk : s1.toks + 1 ≤ s2.toks := q.1
  exact ⟨by omega, q.2⟩
theorem pe_lst1 (h1 : PE1 X e t) (h : PAT X es ta) (hs : starEach (e :: es) X.env = (false, eval e X.env) :: starEach es X.env := by rfl) : PE X (.List (e :: es) pos) (tLst (tCons t ta)) := by
  refine ⟨fun pins s σ H Q I hq => ?_⟩
  refine wpAny_List_spliced ?_
  show wpAny _ _ (spliced (backTo pos (starEach (e :: es) X.env))) _ _ s
  rw [hs]
  show wpAny _ _ (spliced ((false, eval e X.env) :: backTo pos (starEach es X.env))) _ _ s
  refine Calls.spliced_cons (thn (h1 pins s σ H _ I hq) fun v s1 q => ?_)
  obtain ⟨hk, x, H1, I1, r1, q1⟩ := q
  refine thn (h pos pins s1 σ H1 _ hk I1 q1) fun us s2 ⟨xs, H2, I2, r2, z, q2⟩ => ⟨by rw [← (Paired.cons r1 r2).length]; exact z, ?_⟩
  have hf : H2 s2.heap.objs.size = none := I2.hok.fresh (Nat.le_refl _)
  refine ⟨.ref s2.heap.objs.size, upd H2 s2.heap.objs.size (.lst (x :: xs)), I2.laid (t' := s2.toks) (fun b u e => Heap.get?_push_of_some _ e) (Nat.le_refl _) ?_, rfl, q2 _ hf⟩
  exact ⟨z, v :: us, 0, .cons r1 r2, Heap.get?_push_size _ rfl⟩
end
end Sz
/-! a thing against data (the thing may be {}); a list against [] -/
namespace Sz
open PySem PySem.Spec PyProof.Rows L2
end Sz
namespace PySem.SeqAt
open PySem PySem.Spec PyProof.Rows
open MeetsSeq MeetsSeq2 MeetsSeq3 SeqRoads2
theorem sub_int_dict : isSubtype (.type "int") (.type "dict") = pure false := by rw [isSubtype_type]; kernel_rfl
theorem sub_dict_int : isSubtype (.type "dict") (.type "int") = pure false := by rw [isSubtype_type]; kernel_rfl
theorem dict_eq_declines_int (l : Addr) (es : Array DictEntry) (n : Nat) (b : Int) (u : Tok) :
    Meets (Builtin.«dict.__eq__» ⟨[.ref l, .int b u], []⟩) (fun _ R s => s.heap.get? l = some { cls := .type "dict", dict := none, data := .dict es n, slots := #[] } ∧ R (.ok (.ret .notImplemented)) s) :=
  .of_wp fun prog w A R s h => by
    obtain ⟨hp, g, d, tk, os⟩ := s
    obtain ⟨hl, h⟩ := h
    have f1 := sub_int_dict
    wp_walk using AutoSeq1.wpAny_loadPart' hl
    exact ⟨_, rfl, h⟩
theorem int_eq_declines_dict (b : Int) (u : Tok) (l : Addr) (es : Array DictEntry) (n : Nat) :
    Meets (Builtin.«int.__eq__» ⟨[.int b u, .ref l], []⟩) (fun _ R s => s.heap.get? l = some { cls := .type "dict", dict := none, data := .dict es n, slots := #[] } ∧ R (.ok (.ret .notImplemented)) s) :=
  .of_wp fun prog w A R s h => by
    obtain ⟨hp, g, d, tk, os⟩ := s
    obtain ⟨hl, h⟩ := h
    wp_walk using AutoSeq1.wpAny_loadPart' hl, wpAny_load hl
    exact ⟨_, rfl, h⟩
theorem RcAt.dict_int {A : Around} {s : Shared} {l : Addr} {es : Array DictEntry} {n : Nat} (b : Int) (u : Tok) (ho : s.heap.get? l = some { cls := .type "dict", dict := none, data := .dict es n, slots := #[] }) (hu : A.units < cLine) : RcAt A s (.ref l) (.int b u) false := fun prog w E Q h => by
  exact rc_eq_decline_or (k := false) ⟨_, ho, rfl⟩ (typeIs_int s b u) (by decide) sub_int_dict F.slot_dict_eq F.slot_int_eq_refl
    (fun _ hq => call_meets F.slot_dict_eq ⟨_, ho, rfl⟩ F.entry_dict_eq (F.args_dict_eq_2 _ _) (dict_eq_declines_int l es n b u) ⟨ho, hq⟩)
    (fun _ hq => call_meets F.slot_int_eq_refl (typeIs_int s b u) F.entry_int_eq (F.args_int_eq_2 _ _) (int_eq_declines_dict b u l es n) ⟨ho, hq⟩)
    (fun _ hq => wpAny_of_eq (rfl : isSame (.ref l) (.int b u) = pure false) hq) (.inr hu) h
end PySem.SeqAt
namespace Sz
open PySem PySem.Spec PyProof.Rows L2
/-- data, or {}, against an int -/
def rEqDE (K : PySem.W.Frag) : R2 := fun x y H Q => (∃ d e, Dp K H x d ∧ Dp K H y e ∧ SeqAt.shaped d = true ∧ SeqAt.shaped e = true ∧ Q (.bl (PyData.eqv d e)) H) ∨ ∃ a i, x = .ref a ∧ H a = some (.dK []) ∧ y = .int i ∧ Q (.bl false) H
section
variable {X : Cx}
theorem op_eqDE (hu : X.A.units + 64 < cLine) : OpR X (compareOp .Eq) (rEqDE X.K) := by
  intro pins s σ H x y v u Q I rx ry h
  rcases h with h | ⟨a, i, rfl, h, rfl, q⟩
  · exact op_eqD hu pins s σ H x y v u Q I rx ry h
  · cases (show v = Value.ref a from rx)
    obtain ⟨t, rfl⟩ := (show ∃ t, u = Value.int i t from ry)
    obtain ⟨_, ns, vs, kv, hd⟩ : ([] : List (Key × V)).length ≤ sizeLine ∧ (a == sysModules) = false ∧ ∃ vs, KV [] vs ∧ s.heap.DictOf (mixKind X.prog X.w) a vs := I.hok a _ h
    obtain ⟨⟨cls, dd, data, sl⟩, es, ep, e1, ⟨f1, f2, f3⟩, e3, _⟩ := hd
    simp only at f1 f2 f3 e3
    subst f1 f2 f3 e3
    exact SeqAt.RcAt.dict_int i t e1 (by omega) X.prog X.w _ _ ⟨.bl false, H, I, rfl, q⟩
/-- xs != [] -/
def rNeE (K : PySem.W.Frag) : R2 := fun x y H Q => ∃ (a b : Addr) (xs : List V), x = .ref a ∧ y = .ref b ∧ SqL K H a xs ∧ SqL K H b [] ∧ Q (.bl (!xs.isEmpty)) H
theorem op_neE (hu : X.A.units + 64 < cLine) : OpR X (compareOp .NotEq) (rNeE X.K) := by
  intro pins s σ H x y v u Q I rx ry h
  obtain ⟨a, b, xs, rfl, rfl, ha, hb, q⟩ := h
  cases xs with
  | nil => exact op_neL hu pins s σ H _ _ v u Q I rx ry ⟨1, by decide, ⟨a, b, [], [], rfl, rfl, ha, hb, .nil⟩, q⟩
  | cons x xs =>
    cases (show v = Value.ref a from rx)
    cases (show u = Value.ref b from ry)
    obtain ⟨us, r1, p1, _⟩ := I.list ha
    obtain ⟨ws, r2, p2, _⟩ := I.list hb
    have step := SeqAt.RcNeAt.lists_lengths (A := X.A) p1.isList p2.isList (by
      rw [List.size_toArray, List.size_toArray, ← r1.length, ← r2.length]
      simp) (by omega)
    exact step X.prog X.w _ _ ⟨.bl true, H, I, rfl, q⟩
/-- xs == [] -/
def rEqE (K : PySem.W.Frag) : R2 := fun x y H Q => ∃ (a b : Addr) (xs : List V), x = .ref a ∧ y = .ref b ∧ SqL K H a xs ∧ SqL K H b [] ∧ Q (.bl xs.isEmpty) H
theorem op_eqE (hu : X.A.units + 64 < cLine) : OpR X (compareOp .Eq) (rEqE X.K) := by
  intro pins s σ H x y v u Q I rx ry h
  obtain ⟨a, b, xs, rfl, rfl, ha, hb, q⟩ := h
  cases (show v = Value.ref a from rx)
  cases (show u = Value.ref b from ry)
  obtain ⟨us, r1, p1, _⟩ := I.list ha
  obtain ⟨ws, r2, p2, _⟩ := I.list hb
  cases xs with
  | nil =>
    cases r1
    cases r2
    have step := SeqAt.RcAt.lists (A := X.A) (e := fun _ => true) p1.isList p2.isList rfl (by omega) (fun j h1 h2 => absurd h1 (by simp))
    exact step X.prog X.w _ _ ⟨.bl true, H, I, rfl, q⟩
  | cons x xs =>
    have step := SeqAt.RcAt.lists_lengths (A := X.A) p1.isList p2.isList (by
      rw [List.size_toArray, List.size_toArray, ← r1.length, ← r2.length]
      simp) (by omega)
    exact step X.prog X.w _ _ ⟨.bl false, H, I, rfl, q⟩
end
end Sz
set_option pp.maxSteps 900
namespace Sz
open PySem PySem.Spec PyProof.Rows L2
def top (i : Nat) : Stmt := PySem.Challenge.pw_sizestacks_k82_whole_roads_by_payloads.main.body.getD i (.Pass ⟨0, 0, 0, 0⟩)
abbrev s__wall : Stmt := top 0
theorem sc__wall : FnScope ["k"] ["k"] (defScope s__wall) := ⟨rfl, rfl, rfl, by decide +kernel, rfl, by decide +kernel, by decide +kernel⟩
abbrev s_is_integer : Stmt := top 26
theorem sc_is_integer : FnScope ["value"] ["value"] (defScope s_is_integer) := ⟨rfl, rfl, rfl, by decide +kernel, rfl, by decide +kernel, by decide +kernel⟩
abbrev s_is_between : Stmt := top 27
theorem sc_is_between : FnScope ["value", "least", "most"] ["value", "least", "most"] (defScope s_is_between) := ⟨rfl, rfl, rfl, by decide +kernel, rfl, by decide +kernel, by decide +kernel⟩
abbrev s_check_length : Stmt := top 28
theorem sc_check_length : FnScope ["value"] ["value"] (defScope s_check_length) := ⟨rfl, rfl, rfl, by decide +kernel, rfl, by decide +kernel, by decide +kernel⟩
abbrev s_check_base : Stmt := top 29
theorem sc_check_base : FnScope ["value"] ["value"] (defScope s_check_base) := ⟨rfl, rfl, rfl, by decide +kernel, rfl, by decide +kernel, by decide +kernel⟩
abbrev s_figures_of : Stmt := top 30
theorem sc_figures_of : FnScope ["length", "base", "count", "power", "eight", "turn"] ["length", "base"] (defScope s_figures_of) := ⟨rfl, rfl, rfl, by decide +kernel, rfl, by decide +kernel, by decide +kernel⟩
abbrev s_amount_of : Stmt := top 31
theorem sc_amount_of : FnScope ["word", "amount", "sign"] ["word"] (defScope s_amount_of) := ⟨rfl, rfl, rfl, by decide +kernel, rfl, by decide +kernel, by decide +kernel⟩
abbrev s_fault_in : Stmt := top 36
theorem sc_fault_in : FnScope ["kind", "numbers", "index", "least", "most"] ["kind", "numbers"] (defScope s_fault_in) := ⟨rfl, rfl, rfl, by decide +kernel, rfl, by decide +kernel, by decide +kernel⟩
abbrev s_begun : Stmt := top 37
theorem sc_begun : FnScope ["length", "whole"] ["length", "whole"] (defScope s_begun) := ⟨rfl, rfl, rfl, by decide +kernel, rfl, by decide +kernel, by decide +kernel⟩
abbrev s_total_of : Stmt := top 38
theorem sc_total_of : FnScope ["length", "base", "figures"] ["length", "base"] (defScope s_total_of) := ⟨rfl, rfl, rfl, by decide +kernel, rfl, by decide +kernel, by decide +kernel⟩
abbrev s_Wrap___init__ : Stmt := inClass (top 39) 0
theorem sc_Wrap___init__ : FnScope ["self", "kind", "numbers", "fault", "number"] ["self", "kind", "numbers"] (defScope s_Wrap___init__) := ⟨rfl, rfl, rfl, by decide +kernel, rfl, by decide +kernel, by decide +kernel⟩
abbrev s_Wrap_grown : Stmt := inClass (top 39) 2
theorem sc_Wrap_grown : FnScope ["self", "length", "base", "first", "last"] ["self", "length", "base"] (defScope s_Wrap_grown) := ⟨rfl, rfl, rfl, by decide +kernel, rfl, by decide +kernel, by decide +kernel⟩
abbrev s_Wrap___eq__ : Stmt := inClass (top 39) 4
theorem sc_Wrap___eq__ : FnScope ["self", "other"] ["self", "other"] (defScope s_Wrap___eq__) := ⟨rfl, rfl, rfl, by decide +kernel, rfl, by decide +kernel, by decide +kernel⟩
abbrev s_Wrap___str__ : Stmt := inClass (top 39) 5
theorem sc_Wrap___str__ : FnScope ["self"] ["self"] (defScope s_Wrap___str__) := ⟨rfl, rfl, rfl, by decide +kernel, rfl, by decide +kernel, by decide +kernel⟩
abbrev s_in_pieces : Stmt := top 40
theorem sc_in_pieces : FnScope ["length", "most", "constant", "base", "size", "rest"] ["length", "most", "constant", "base"] (defScope s_in_pieces) := ⟨rfl, rfl, rfl, by decide +kernel, rfl, by decide +kernel, by decide +kernel⟩
abbrev s_wrap_in : Stmt := top 41
theorem sc_wrap_in : FnScope ["text", "words", "kind", "numbers", "word"] ["text"] (defScope s_wrap_in) := ⟨rfl, rfl, rfl, by decide +kernel, rfl, by decide +kernel, by decide +kernel⟩
abbrev s_check_wrap : Stmt := top 42
theorem sc_check_wrap : FnScope ["value"] ["value"] (defScope s_check_wrap) := ⟨rfl, rfl, rfl, by decide +kernel, rfl, by decide +kernel, by decide +kernel⟩
abbrev s_fineness_of : Stmt := top 44
theorem sc_fineness_of : FnScope ["wraps", "product", "wrap"] ["wraps"] (defScope s_fineness_of) := ⟨rfl, rfl, rfl, by decide +kernel, rfl, by decide +kernel, by decide +kernel⟩
abbrev s_check_wraps : Stmt := top 45
theorem sc_check_wraps : FnScope ["values", "most", "index", "value"] ["values", "most"] (defScope s_check_wraps) := ⟨rfl, rfl, rfl, by decide +kernel, rfl, by decide +kernel, by decide +kernel⟩
abbrev s_Stack___init__ : Stmt := inClass (top 46) 0
theorem sc_Stack___init__ : FnScope ["self", "base", "wraps", "fineness"] ["self", "base", "wraps"] (defScope s_Stack___init__) := ⟨rfl, rfl, rfl, by decide +kernel, rfl, by decide +kernel, by decide +kernel⟩
abbrev s_Stack_read : Stmt := inClass (top 46) 1
theorem sc_Stack_read : FnScope ["text", "stack"] ["text"] (defScope s_Stack_read) := ⟨rfl, rfl, rfl, by decide +kernel, rfl, by decide +kernel, by decide +kernel⟩
abbrev s_Stack_grown : Stmt := inClass (top 46) 2
theorem sc_Stack_grown : FnScope ["self", "length", "wrap"] ["self", "length"] (defScope s_Stack_grown) := ⟨rfl, rfl, rfl, by decide +kernel, rfl, by decide +kernel, by decide +kernel⟩
abbrev s_Stack___len__ : Stmt := inClass (top 46) 9
theorem sc_Stack___len__ : FnScope ["self"] ["self"] (defScope s_Stack___len__) := ⟨rfl, rfl, rfl, by decide +kernel, rfl, by decide +kernel, by decide +kernel⟩
abbrev s_Stack___eq__ : Stmt := inClass (top 46) 10
theorem sc_Stack___eq__ : FnScope ["self", "other"] ["self", "other"] (defScope s_Stack___eq__) := ⟨rfl, rfl, rfl, by decide +kernel, rfl, by decide +kernel, by decide +kernel⟩
abbrev s_stack_in : Stmt := top 47
theorem sc_stack_in : FnScope ["text", "rows", "word", "gap", "rest", "base", "wraps", "row"] ["text"] (defScope s_stack_in) := ⟨rfl, rfl, rfl, by decide +kernel, rfl, by decide +kernel, by decide +kernel⟩
abbrev s_check_stack : Stmt := top 48
theorem sc_check_stack : FnScope ["value"] ["value"] (defScope s_check_stack) := ⟨rfl, rfl, rfl, by decide +kernel, rfl, by decide +kernel, by decide +kernel⟩
abbrev s_greatest_within : Stmt := top 50
theorem sc_greatest_within : FnScope ["stack", "bound", "low", "high", "middle"] ["stack", "bound"] (defScope s_greatest_within) := ⟨rfl, rfl, rfl, by decide +kernel, rfl, by decide +kernel, by decide +kernel⟩
abbrev s_payload : Stmt := top 51
theorem sc_payload : FnScope ["stack", "bound"] ["stack", "bound"] (defScope s_payload) := ⟨rfl, rfl, rfl, by decide +kernel, rfl, by decide +kernel, by decide +kernel⟩
abbrev s_stack_behind : Stmt := top 54
theorem sc_stack_behind : FnScope ["base", "steps", "wraps", "step"] ["base", "steps"] (defScope s_stack_behind) := ⟨rfl, rfl, rfl, by decide +kernel, rfl, by decide +kernel, by decide +kernel⟩
abbrev s_sizes_along : Stmt := top 55
theorem sc_sizes_along : FnScope ["base", "steps", "length", "found", "inner", "step", "size"] ["base", "steps", "length"] (defScope s_sizes_along) := ⟨rfl, rfl, rfl, by decide +kernel, rfl, by decide +kernel, by decide +kernel⟩
abbrev s_reaches : Stmt := top 56
theorem sc_reaches : FnScope ["base", "steps", "found", "place", "step", "most"] ["base", "steps"] (defScope s_reaches) := ⟨rfl, rfl, rfl, by decide +kernel, rfl, by decide +kernel, by decide +kernel⟩
abbrev s_least_reach : Stmt := top 57
theorem sc_least_reach : FnScope ["pairs", "place", "most"] ["pairs"] (defScope s_least_reach) := ⟨rfl, rfl, rfl, by decide +kernel, rfl, by decide +kernel, by decide +kernel⟩
abbrev s_check_free : Stmt := top 58
theorem sc_check_free : FnScope ["road"] ["road"] (defScope s_check_free) := ⟨rfl, rfl, rfl, by decide +kernel, rfl, by decide +kernel, by decide +kernel⟩
abbrev s_check_push : Stmt := top 59
theorem sc_check_push : FnScope ["stack", "wrap"] ["stack", "wrap"] (defScope s_check_push) := ⟨rfl, rfl, rfl, by decide +kernel, rfl, by decide +kernel, by decide +kernel⟩
abbrev s_add_step : Stmt := top 60
theorem sc_add_step : FnScope ["road", "step"] ["road", "step"] (defScope s_add_step) := ⟨rfl, rfl, rfl, by decide +kernel, rfl, by decide +kernel, by decide +kernel⟩
abbrev s_Road___init__ : Stmt := inClass (top 61) 0
theorem sc_Road___init__ : FnScope ["self", "base"] ["self", "base"] (defScope s_Road___init__) := ⟨rfl, rfl, rfl, by decide +kernel, rfl, by decide +kernel, by decide +kernel⟩
abbrev s_Road_push : Stmt := inClass (top 61) 1
theorem sc_Road_push : FnScope ["self", "wrap"] ["self", "wrap"] (defScope s_Road_push) := ⟨rfl, rfl, rfl, by decide +kernel, rfl, by decide +kernel, by decide +kernel⟩
abbrev s_Road_pop : Stmt := inClass (top 61) 2
theorem sc_Road_pop : FnScope ["self"] ["self"] (defScope s_Road_pop) := ⟨rfl, rfl, rfl, by decide +kernel, rfl, by decide +kernel, by decide +kernel⟩
abbrev s_Road_bound : Stmt := inClass (top 61) 3
theorem sc_Road_bound : FnScope ["self", "bound"] ["self", "bound"] (defScope s_Road_bound) := ⟨rfl, rfl, rfl, by decide +kernel, rfl, by decide +kernel, by decide +kernel⟩
abbrev s_Road_sizes : Stmt := inClass (top 61) 7
theorem sc_Road_sizes : FnScope ["self", "length"] ["self", "length"] (defScope s_Road_sizes) := ⟨rfl, rfl, rfl, by decide +kernel, rfl, by decide +kernel, by decide +kernel⟩
abbrev s_Road_fits : Stmt := inClass (top 61) 8
theorem sc_Road_fits : FnScope ["self", "length", "sizes", "size", "step"] ["self", "length"] (defScope s_Road_fits) := ⟨rfl, rfl, rfl, by decide +kernel, rfl, by decide +kernel, by decide +kernel⟩
abbrev s_Road_greatest : Stmt := inClass (top 61) 9
theorem sc_Road_greatest : FnScope ["self", "most"] ["self"] (defScope s_Road_greatest) := ⟨rfl, rfl, rfl, by decide +kernel, rfl, by decide +kernel, by decide +kernel⟩
abbrev s_Road___len__ : Stmt := inClass (top 61) 12
theorem sc_Road___len__ : FnScope ["self"] ["self"] (defScope s_Road___len__) := ⟨rfl, rfl, rfl, by decide +kernel, rfl, by decide +kernel, by decide +kernel⟩
abbrev s_L_bowl : Stmt := top 63
theorem sc_L_bowl : FnScope ["_law_script", "_law_k", "_law_kneaded", "_law_entry", "_law_own"] ["_law_script", "_law_k"] (defScope s_L_bowl) := ⟨rfl, rfl, rfl, by decide +kernel, rfl, by decide +kernel, by decide +kernel⟩
abbrev s_L_scoop : Stmt := top 64
theorem sc_L_scoop : FnScope ["_law_bowl_here", "_law_many", "_law_part"] ["_law_bowl_here", "_law_many"] (defScope s_L_scoop) := ⟨rfl, rfl, rfl, by decide +kernel, rfl, by decide +kernel, by decide +kernel⟩
abbrev s_L_one_of : Stmt := top 65
theorem sc_L_one_of : FnScope ["_law_bowl_here", "_law_things"] ["_law_bowl_here", "_law_things"] (defScope s_L_one_of) := ⟨rfl, rfl, rfl, by decide +kernel, rfl, by decide +kernel, by decide +kernel⟩
abbrev s_L_figures : Stmt := top 66
theorem sc_L_figures : FnScope ["_law_n", "_law_root_here", "_law_many"] ["_law_n", "_law_root_here"] (defScope s_L_figures) := ⟨rfl, rfl, rfl, by decide +kernel, rfl, by decide +kernel, by decide +kernel⟩
abbrev s_L_parts : Stmt := top 67
theorem sc_L_parts : FnScope ["_law_n", "_law_whole_part"] ["_law_n", "_law_whole_part"] (defScope s_L_parts) := ⟨rfl, rfl, rfl, by decide +kernel, rfl, by decide +kernel, by decide +kernel⟩
abbrev s_L_grown : Stmt := top 68
theorem sc_L_grown : FnScope ["_law_plan_here", "_law_n", "_law_root_here", "_law_sort", "_law_first", "_law_last", "_law_least_one", "_law_own", "_law_rest", "_law_full", "_law_left", "_law_many", "_law_k", "_law_s"] ["_law_plan_here", "_law_n", "_law_root_here"] (defScope s_L_grown) := ⟨rfl, rfl, rfl, by decide +kernel, rfl, by decide +kernel, by decide +kernel⟩
abbrev s_L_size : Stmt := top 69
theorem sc_L_size : FnScope ["_law_root_here", "_law_plans_here", "_law_n", "_law_plan_here"] ["_law_root_here", "_law_plans_here", "_law_n"] (defScope s_L_size) := ⟨rfl, rfl, rfl, by decide +kernel, rfl, by decide +kernel, by decide +kernel⟩
abbrev s_L_small : Stmt := top 70
theorem sc_L_small : FnScope ["_law_bowl_here", "_law_most"] ["_law_bowl_here", "_law_most"] (defScope s_L_small) := ⟨rfl, rfl, rfl, by decide +kernel, rfl, by decide +kernel, by decide +kernel⟩
abbrev s_L_plan : Stmt := top 71
theorem sc_L_plan : FnScope ["_law_bowl_here", "_law_room", "_law_sort", "_law_part"] ["_law_bowl_here", "_law_room"] (defScope s_L_plan) := ⟨rfl, rfl, rfl, by decide +kernel, rfl, by decide +kernel, by decide +kernel⟩
abbrev s_L_fine : Stmt := top 72
theorem sc_L_fine : FnScope ["_law_plan_here"] ["_law_plan_here"] (defScope s_L_fine) := ⟨rfl, rfl, rfl, by decide +kernel, rfl, by decide +kernel, by decide +kernel⟩
abbrev s_L_plans : Stmt := top 73
theorem sc_L_plans : FnScope ["_law_bowl_here", "_law_most", "_law_room", "_law_found", "_law_k", "_law_plan_here"] ["_law_bowl_here", "_law_most", "_law_room"] (defScope s_L_plans) := ⟨rfl, rfl, rfl, by decide +kernel, rfl, by decide +kernel, by decide +kernel⟩
abbrev s_L_root : Stmt := top 74
theorem sc_L_root : FnScope ["_law_bowl_here"] ["_law_bowl_here"] (defScope s_L_root) := ⟨rfl, rfl, rfl, by decide +kernel, rfl, by decide +kernel, by decide +kernel⟩
abbrev s_L_wrap : Stmt := top 75
theorem sc_L_wrap : FnScope ["_law_plan_here"] ["_law_plan_here"] (defScope s_L_wrap) := ⟨rfl, rfl, rfl, by decide +kernel, rfl, by decide +kernel, by decide +kernel⟩
abbrev s_L_words : Stmt := top 76
theorem sc_L_words : FnScope ["_law_plan_here", "_law_thing"] ["_law_plan_here"] (defScope s_L_words) := ⟨rfl, rfl, rfl, by decide +kernel, rfl, by decide +kernel, by decide +kernel⟩
abbrev s_L_rows : Stmt := top 77
theorem sc_L_rows : FnScope ["_law_root_here", "_law_plans_here", "_law_plan_here"] ["_law_root_here", "_law_plans_here"] (defScope s_L_rows) := ⟨rfl, rfl, rfl, by decide +kernel, rfl, by decide +kernel, by decide +kernel⟩
abbrev s_L_stack : Stmt := top 78
theorem sc_L_stack : FnScope ["_law_root_here", "_law_plans_here"] ["_law_root_here", "_law_plans_here"] (defScope s_L_stack) := ⟨rfl, rfl, rfl, by decide +kernel, rfl, by decide +kernel, by decide +kernel⟩
abbrev s_L_far : Stmt := top 79
theorem sc_L_far : FnScope ["_law_bowl_here", "_law_root_here", "_law_steep", "_law_turn", "_law_near", "_law_any_one"] ["_law_bowl_here", "_law_root_here"] (defScope s_L_far) := ⟨rfl, rfl, rfl, by decide +kernel, rfl, by decide +kernel, by decide +kernel⟩
abbrev s_L_fine_all : Stmt := top 80
theorem sc_L_fine_all : FnScope ["_law_plans_here", "_law_found", "_law_plan_here"] ["_law_plans_here"] (defScope s_L_fine_all) := ⟨rfl, rfl, rfl, by decide +kernel, rfl, by decide +kernel, by decide +kernel⟩
abbrev s_L_walked : Stmt := top 81
theorem sc_L_walked : FnScope ["_law_bowl_here", "_law_root_here", "_law_road", "_law_on", "_law_rows_here", "_law_k", "_law_way", "_law_limit_here"] ["_law_bowl_here", "_law_root_here"] (defScope s_L_walked) := ⟨rfl, rfl, rfl, by decide +kernel, rfl, by decide +kernel, by decide +kernel⟩
abbrev s_L_right : Stmt := top 82
theorem sc_L_right : FnScope ["_law_bowl_here", "_law_turn", "_law_root_here", "_law_road", "_law_rows_here", "_law_fits", "_law_due", "_law_n", "_law_on", "_law_end"] ["_law_bowl_here"] (defScope s_L_right) := ⟨rfl, rfl, rfl, by decide +kernel, rfl, by decide +kernel, by decide +kernel⟩
abbrev s_law : Stmt := top 83
theorem sc_law : FnScope ["_law_script", "_law_k"] ["_law_script"] (defScope s_law) := ⟨rfl, rfl, rfl, by decide +kernel, rfl, by decide +kernel, by decide +kernel⟩
structure Tx (w : World) (K : PySem.W.Frag) (mg : Str → Option Value) : Prop where
  d__wall : DefAt K mg "_wall" s__wall
  d_is_integer : DefAt K mg "is_integer" s_is_integer
  d_is_between : DefAt K mg "is_between" s_is_between
  d_check_length : DefAt K mg "check_length" s_check_length
  d_check_base : DefAt K mg "check_base" s_check_base
  d_figures_of : DefAt K mg "figures_of" s_figures_of
  d_amount_of : DefAt K mg "amount_of" s_amount_of
  d_fault_in : DefAt K mg "fault_in" s_fault_in
  d_begun : DefAt K mg "begun" s_begun
  d_total_of : DefAt K mg "total_of" s_total_of
  d_in_pieces : DefAt K mg "in_pieces" s_in_pieces
  d_wrap_in : DefAt K mg "wrap_in" s_wrap_in
  d_check_wrap : DefAt K mg "check_wrap" s_check_wrap
  d_fineness_of : DefAt K mg "fineness_of" s_fineness_of
  d_check_wraps : DefAt K mg "check_wraps" s_check_wraps
  d_stack_in : DefAt K mg "stack_in" s_stack_in
  d_check_stack : DefAt K mg "check_stack" s_check_stack
  d_greatest_within : DefAt K mg "greatest_within" s_greatest_within
  d_payload : DefAt K mg "payload" s_payload
  d_stack_behind : DefAt K mg "stack_behind" s_stack_behind
  d_sizes_along : DefAt K mg "sizes_along" s_sizes_along
  d_reaches : DefAt K mg "reaches" s_reaches
  d_least_reach : DefAt K mg "least_reach" s_least_reach
  d_check_free : DefAt K mg "check_free" s_check_free
  d_check_push : DefAt K mg "check_push" s_check_push
  d_add_step : DefAt K mg "add_step" s_add_step
  d_L_bowl : DefAt K mg "_law_bowl" s_L_bowl
  d_L_scoop : DefAt K mg "_law_scoop" s_L_scoop
  d_L_one_of : DefAt K mg "_law_one_of" s_L_one_of
  d_L_figures : DefAt K mg "_law_figures" s_L_figures
  d_L_parts : DefAt K mg "_law_parts" s_L_parts
  d_L_grown : DefAt K mg "_law_grown" s_L_grown
  d_L_size : DefAt K mg "_law_size" s_L_size
  d_L_small : DefAt K mg "_law_small" s_L_small
  d_L_plan : DefAt K mg "_law_plan" s_L_plan
  d_L_fine : DefAt K mg "_law_fine" s_L_fine
  d_L_plans : DefAt K mg "_law_plans" s_L_plans
  d_L_root : DefAt K mg "_law_root" s_L_root
  d_L_wrap : DefAt K mg "_law_wrap" s_L_wrap
  d_L_words : DefAt K mg "_law_words" s_L_words
  d_L_rows : DefAt K mg "_law_rows" s_L_rows
  d_L_stack : DefAt K mg "_law_stack" s_L_stack
  d_L_far : DefAt K mg "_law_far" s_L_far
  d_L_fine_all : DefAt K mg "_law_fine_all" s_L_fine_all
  d_L_walked : DefAt K mg "_law_walked" s_L_walked
  d_L_right : DefAt K mg "_law_right" s_L_right
  d_law : DefAt K mg "law" s_law
  b_abs : mg "abs" = none
  b_all : mg "all" = none
  b_divmod : mg "divmod" = none
  b_enumerate : mg "enumerate" = none
  b_int : mg "int" = none
  b_isinstance : mg "isinstance" = none
  b_len : mg "len" = none
  b_max : mg "max" = none
  b_min : mg "min" = none
  b_range : mg "range" = none
  b_repr : mg "repr" = none
  b_str : mg "str" = none
  b_tuple : mg "tuple" = none
  b_zip : mg "zip" = none
  c_MOST_LENGTH : ∃ u, mg "MOST_LENGTH" = some (.int 1000000000000000000000000000000000000000000000000000000000000 u)
  c_MOST_WRAPS : ∃ u, mg "MOST_WRAPS" = some (.int 6 u)
  c_MOST_FINENESS : ∃ u, mg "MOST_FINENESS" = some (.int 120 u)
  c_MOST_CONSTANT : ∃ u, mg "MOST_CONSTANT" = some (.int 1000 u)
  c_LEAST_BASE : ∃ u, mg "LEAST_BASE" = some (.int 2 u)
  c_MOST_BASE : ∃ u, mg "MOST_BASE" = some (.int 256 u)
  c_MOST_PIECE : ∃ u, mg "MOST_PIECE" = some (.int 60 u)
  c_MOST_CODE : ∃ u, mg "MOST_CODE" = some (.int 120 u)
  c_LAST_LENGTH : ∃ u, mg "LAST_LENGTH" = some (.int 999999999999999999999999999999999999999999999999999999999999 u)
  c_TENS : ∃ u, mg "TENS" = some (.str "0123456789" u)
  k_Wrap : mg "Wrap" = some (.ref (He.ga K "Wrap"))
  cl_Wrap : Cls K (He.ga K "Wrap")
  mk_Wrap : Mk K (He.ga K "Wrap") (He.ma K (He.ga K "Wrap") "__init__")
  is_Wrap : IsiK K (He.ga K "Wrap")
  na_Wrap_kind : NoAttr K (He.ga K "Wrap") "kind"
  na_Wrap_numbers : NoAttr K (He.ga K "Wrap") "numbers"
  na_Wrap_words : NoAttr K (He.ga K "Wrap") "words"
  me_Wrap___init__ : Meth K (He.ga K "Wrap") "__init__" (He.ma K (He.ga K "Wrap") "__init__")
  dm_Wrap___init__ : DefAtM K "Wrap" "__init__" "Wrap.__init__" s_Wrap___init__
  me_Wrap_grown : Meth K (He.ga K "Wrap") "grown" (He.ma K (He.ga K "Wrap") "grown")
  dm_Wrap_grown : DefAtM K "Wrap" "grown" "Wrap.grown" s_Wrap_grown
  me_Wrap___eq__ : Meth K (He.ga K "Wrap") "__eq__" (He.ma K (He.ga K "Wrap") "__eq__")
  dm_Wrap___eq__ : DefAtM K "Wrap" "__eq__" "Wrap.__eq__" s_Wrap___eq__
  me_Wrap___str__ : Meth K (He.ga K "Wrap") "__str__" (He.ma K (He.ga K "Wrap") "__str__")
  dm_Wrap___str__ : DefAtM K "Wrap" "__str__" "Wrap.__str__" s_Wrap___str__
  k_Stack : mg "Stack" = some (.ref (He.ga K "Stack"))
  cl_Stack : Cls K (He.ga K "Stack")
  mk_Stack : Mk K (He.ga K "Stack") (He.ma K (He.ga K "Stack") "__init__")
  is_Stack : IsiK K (He.ga K "Stack")
  na_Stack_base : NoAttr K (He.ga K "Stack") "base"
  na_Stack_wraps : NoAttr K (He.ga K "Stack") "wraps"
  na_Stack_fineness : NoAttr K (He.ga K "Stack") "fineness"
  me_Stack___init__ : Meth K (He.ga K "Stack") "__init__" (He.ma K (He.ga K "Stack") "__init__")
  dm_Stack___init__ : DefAtM K "Stack" "__init__" "Stack.__init__" s_Stack___init__
  me_Stack_grown : Meth K (He.ga K "Stack") "grown" (He.ma K (He.ga K "Stack") "grown")
  dm_Stack_grown : DefAtM K "Stack" "grown" "Stack.grown" s_Stack_grown
  me_Stack___len__ : Meth K (He.ga K "Stack") "__len__" (He.ma K (He.ga K "Stack") "__len__")
  dm_Stack___len__ : DefAtM K "Stack" "__len__" "Stack.__len__" s_Stack___len__
  me_Stack___eq__ : Meth K (He.ga K "Stack") "__eq__" (He.ma K (He.ga K "Stack") "__eq__")
  dm_Stack___eq__ : DefAtM K "Stack" "__eq__" "Stack.__eq__" s_Stack___eq__
  k_Road : mg "Road" = some (.ref (He.ga K "Road"))
  cl_Road : Cls K (He.ga K "Road")
  mk_Road : Mk K (He.ga K "Road") (He.ma K (He.ga K "Road") "__init__")
  is_Road : IsiK K (He.ga K "Road")
  na_Road_base : NoAttr K (He.ga K "Road") "base"
  na_Road_steps : NoAttr K (He.ga K "Road") "steps"
  na_Road_stack : NoAttr K (He.ga K "Road") "stack"
  na_Road_busy : NoAttr K (He.ga K "Road") "busy"
  me_Road___init__ : Meth K (He.ga K "Road") "__init__" (He.ma K (He.ga K "Road") "__init__")
  dm_Road___init__ : DefAtM K "Road" "__init__" "Road.__init__" s_Road___init__
  me_Road_push : Meth K (He.ga K "Road") "push" (He.ma K (He.ga K "Road") "push")
  dm_Road_push : DefAtM K "Road" "push" "Road.push" s_Road_push
  me_Road_pop : Meth K (He.ga K "Road") "pop" (He.ma K (He.ga K "Road") "pop")
  dm_Road_pop : DefAtM K "Road" "pop" "Road.pop" s_Road_pop
  me_Road_bound : Meth K (He.ga K "Road") "bound" (He.ma K (He.ga K "Road") "bound")
  dm_Road_bound : DefAtM K "Road" "bound" "Road.bound" s_Road_bound
  me_Road_sizes : Meth K (He.ga K "Road") "sizes" (He.ma K (He.ga K "Road") "sizes")
  dm_Road_sizes : DefAtM K "Road" "sizes" "Road.sizes" s_Road_sizes
  me_Road_fits : Meth K (He.ga K "Road") "fits" (He.ma K (He.ga K "Road") "fits")
  dm_Road_fits : DefAtM K "Road" "fits" "Road.fits" s_Road_fits
  me_Road_greatest : Meth K (He.ga K "Road") "greatest" (He.ma K (He.ga K "Road") "greatest")
  dm_Road_greatest : DefAtM K "Road" "greatest" "Road.greatest" s_Road_greatest
  me_Road___len__ : Meth K (He.ga K "Road") "__len__" (He.ma K (He.ga K "Road") "__len__")
  dm_Road___len__ : DefAtM K "Road" "__len__" "Road.__len__" s_Road___len__
  st_Stack : StrK K (He.ga K "Stack")
  ne_Stack_Wrap : He.ga K "Stack" ≠ He.ga K "Wrap"
  ne_Road_Wrap : He.ga K "Road" ≠ He.ga K "Wrap"
  ne_Road_Stack : He.ga K "Road" ≠ He.ga K "Stack"
  ns_Stack : NoSub K (He.ga K "Stack")
  ns_Wrap : NoSub K (He.ga K "Wrap")
  kt : KitTab K ["Wrap", "Stack"]
  sm_Stack_read : SMet K (He.ga K "Stack") "read" (He.ma K (He.ga K "Stack") "read") (sA K "Stack" "read")
  ds_Stack_read : DefAtS K "Stack" "read" "Stack.read" s_Stack_read
  k_RANGES : mg "RANGES" = some (.ref (He.ga K "RANGES"))
  kd : ∃ es n, KDict K w (He.ga K "RANGES") es n
  rg : ∀ a : Wr, Rng K (He.ga K "RANGES") a.kind a.rng
  rn : ∀ z : Str, z ∉ kinds7 → PySem.W.nsIn K (He.ga K "RANGES") z = some none
def tfL : List He.Defn := []
def tabsOf (K : PySem.W.Frag) : List (Addr × Str) := []
abbrev UT (K : PySem.W.Frag) (mg : Str → Option Value) (base : Heap) : Prop := ∀ p ∈ tfL.map (He.cT K), LamX.TabB base mg p.1 p.2
theorem tabs_start {K : PySem.W.Frag} {H : Hp} (h : ∀ p ∈ tfL.map (He.cT K), H p.2 = some (.tbl #[])) : LamX.Tabs (tabsOf K) H := by
  intro p hp
  have key : ∃ d ∈ tfL, (He.cT K d).2 = p.1 := by
    simp only [tabsOf, List.mem_cons, List.not_mem_nil, or_false] at hp
    try cases hp
  obtain ⟨d, hd, e⟩ := key
  exact .nil (by rw [← e]; exact h _ (List.mem_map.mpr ⟨d, hd, rfl⟩))
def dd__wall : He.DefD := ⟨("_wall", none), "_wall", "_wall", defArgs s__wall, defBody s__wall, defScope s__wall, [], []⟩
def dd_is_integer : He.DefD := ⟨("is_integer", none), "is_integer", "is_integer", defArgs s_is_integer, defBody s_is_integer, defScope s_is_integer, [], []⟩
def dd_is_between : He.DefD := ⟨("is_between", none), "is_between", "is_between", defArgs s_is_between, defBody s_is_between, defScope s_is_between, [], []⟩
def dd_check_length : He.DefD := ⟨("check_length", none), "check_length", "check_length", defArgs s_check_length, defBody s_check_length, defScope s_check_length, [], []⟩
def dd_check_base : He.DefD := ⟨("check_base", none), "check_base", "check_base", defArgs s_check_base, defBody s_check_base, defScope s_check_base, [], []⟩
def dd_figures_of : He.DefD := ⟨("figures_of", none), "figures_of", "figures_of", defArgs s_figures_of, defBody s_figures_of, defScope s_figures_of, [], []⟩
def dd_amount_of : He.DefD := ⟨("amount_of", none), "amount_of", "amount_of", defArgs s_amount_of, defBody s_amount_of, defScope s_amount_of, [], []⟩
def dd_fault_in : He.DefD := ⟨("fault_in", none), "fault_in", "fault_in", defArgs s_fault_in, defBody s_fault_in, defScope s_fault_in, [], []⟩
def dd_begun : He.DefD := ⟨("begun", none), "begun", "begun", defArgs s_begun, defBody s_begun, defScope s_begun, [], []⟩
def dd_total_of : He.DefD := ⟨("total_of", none), "total_of", "total_of", defArgs s_total_of, defBody s_total_of, defScope s_total_of, [], []⟩
def dd_in_pieces : He.DefD := ⟨("in_pieces", none), "in_pieces", "in_pieces", defArgs s_in_pieces, defBody s_in_pieces, defScope s_in_pieces, [], []⟩
def dd_wrap_in : He.DefD := ⟨("wrap_in", none), "wrap_in", "wrap_in", defArgs s_wrap_in, defBody s_wrap_in, defScope s_wrap_in, [], []⟩
def dd_check_wrap : He.DefD := ⟨("check_wrap", none), "check_wrap", "check_wrap", defArgs s_check_wrap, defBody s_check_wrap, defScope s_check_wrap, [], []⟩
def dd_fineness_of : He.DefD := ⟨("fineness_of", none), "fineness_of", "fineness_of", defArgs s_fineness_of, defBody s_fineness_of, defScope s_fineness_of, [], []⟩
def dd_check_wraps : He.DefD := ⟨("check_wraps", none), "check_wraps", "check_wraps", defArgs s_check_wraps, defBody s_check_wraps, defScope s_check_wraps, [], []⟩
def dd_stack_in : He.DefD := ⟨("stack_in", none), "stack_in", "stack_in", defArgs s_stack_in, defBody s_stack_in, defScope s_stack_in, [], []⟩
def dd_check_stack : He.DefD := ⟨("check_stack", none), "check_stack", "check_stack", defArgs s_check_stack, defBody s_check_stack, defScope s_check_stack, [], []⟩
def dd_greatest_within : He.DefD := ⟨("greatest_within", none), "greatest_within", "greatest_within", defArgs s_greatest_within, defBody s_greatest_within, defScope s_greatest_within, [], []⟩
def dd_payload : He.DefD := ⟨("payload", none), "payload", "payload", defArgs s_payload, defBody s_payload, defScope s_payload, [], []⟩
def dd_stack_behind : He.DefD := ⟨("stack_behind", none), "stack_behind", "stack_behind", defArgs s_stack_behind, defBody s_stack_behind, defScope s_stack_behind, [], []⟩
def dd_sizes_along : He.DefD := ⟨("sizes_along", none), "sizes_along", "sizes_along", defArgs s_sizes_along, defBody s_sizes_along, defScope s_sizes_along, [], []⟩
def dd_reaches : He.DefD := ⟨("reaches", none), "reaches", "reaches", defArgs s_reaches, defBody s_reaches, defScope s_reaches, [], []⟩
def dd_least_reach : He.DefD := ⟨("least_reach", none), "least_reach", "least_reach", defArgs s_least_reach, defBody s_least_reach, defScope s_least_reach, [], []⟩
def dd_check_free : He.DefD := ⟨("check_free", none), "check_free", "check_free", defArgs s_check_free, defBody s_check_free, defScope s_check_free, [], []⟩
def dd_check_push : He.DefD := ⟨("check_push", none), "check_push", "check_push", defArgs s_check_push, defBody s_check_push, defScope s_check_push, [], []⟩
def dd_add_step : He.DefD := ⟨("add_step", none), "add_step", "add_step", defArgs s_add_step, defBody s_add_step, defScope s_add_step, [], []⟩
def dd_L_bowl : He.DefD := ⟨("_law_bowl", none), "_law_bowl", "_law_bowl", defArgs s_L_bowl, defBody s_L_bowl, defScope s_L_bowl, [], []⟩
def dd_L_scoop : He.DefD := ⟨("_law_scoop", none), "_law_scoop", "_law_scoop", defArgs s_L_scoop, defBody s_L_scoop, defScope s_L_scoop, [], []⟩
def dd_L_one_of : He.DefD := ⟨("_law_one_of", none), "_law_one_of", "_law_one_of", defArgs s_L_one_of, defBody s_L_one_of, defScope s_L_one_of, [], []⟩
def dd_L_figures : He.DefD := ⟨("_law_figures", none), "_law_figures", "_law_figures", defArgs s_L_figures, defBody s_L_figures, defScope s_L_figures, [], []⟩
def dd_L_parts : He.DefD := ⟨("_law_parts", none), "_law_parts", "_law_parts", defArgs s_L_parts, defBody s_L_parts, defScope s_L_parts, [], []⟩
def dd_L_grown : He.DefD := ⟨("_law_grown", none), "_law_grown", "_law_grown", defArgs s_L_grown, defBody s_L_grown, defScope s_L_grown, [], []⟩
def dd_L_size : He.DefD := ⟨("_law_size", none), "_law_size", "_law_size", defArgs s_L_size, defBody s_L_size, defScope s_L_size, [], []⟩
def dd_L_small : He.DefD := ⟨("_law_small", none), "_law_small", "_law_small", defArgs s_L_small, defBody s_L_small, defScope s_L_small, [], []⟩
def dd_L_plan : He.DefD := ⟨("_law_plan", none), "_law_plan", "_law_plan", defArgs s_L_plan, defBody s_L_plan, defScope s_L_plan, [], []⟩
def dd_L_fine : He.DefD := ⟨("_law_fine", none), "_law_fine", "_law_fine", defArgs s_L_fine, defBody s_L_fine, defScope s_L_fine, [], []⟩
def dd_L_plans : He.DefD := ⟨("_law_plans", none), "_law_plans", "_law_plans", defArgs s_L_plans, defBody s_L_plans, defScope s_L_plans, [], []⟩
def dd_L_root : He.DefD := ⟨("_law_root", none), "_law_root", "_law_root", defArgs s_L_root, defBody s_L_root, defScope s_L_root, [], []⟩
def dd_L_wrap : He.DefD := ⟨("_law_wrap", none), "_law_wrap", "_law_wrap", defArgs s_L_wrap, defBody s_L_wrap, defScope s_L_wrap, [], []⟩
def dd_L_words : He.DefD := ⟨("_law_words", none), "_law_words", "_law_words", defArgs s_L_words, defBody s_L_words, defScope s_L_words, [], []⟩
def dd_L_rows : He.DefD := ⟨("_law_rows", none), "_law_rows", "_law_rows", defArgs s_L_rows, defBody s_L_rows, defScope s_L_rows, [], []⟩
def dd_L_stack : He.DefD := ⟨("_law_stack", none), "_law_stack", "_law_stack", defArgs s_L_stack, defBody s_L_stack, defScope s_L_stack, [], []⟩
def dd_L_far : He.DefD := ⟨("_law_far", none), "_law_far", "_law_far", defArgs s_L_far, defBody s_L_far, defScope s_L_far, [], []⟩
def dd_L_fine_all : He.DefD := ⟨("_law_fine_all", none), "_law_fine_all", "_law_fine_all", defArgs s_L_fine_all, defBody s_L_fine_all, defScope s_L_fine_all, [], []⟩
def dd_L_walked : He.DefD := ⟨("_law_walked", none), "_law_walked", "_law_walked", defArgs s_L_walked, defBody s_L_walked, defScope s_L_walked, [], []⟩
def dd_L_right : He.DefD := ⟨("_law_right", none), "_law_right", "_law_right", defArgs s_L_right, defBody s_L_right, defScope s_L_right, [], []⟩
def dd_law : He.DefD := ⟨("law", none), "law", "law", defArgs s_law, defBody s_law, defScope s_law, [], []⟩
def dd_Wrap___init__ : He.DefD := ⟨("Wrap", some "__init__"), "__init__", "Wrap.__init__", defArgs s_Wrap___init__, defBody s_Wrap___init__, defScope s_Wrap___init__, [], []⟩
def dd_Wrap_grown : He.DefD := ⟨("Wrap", some "grown"), "grown", "Wrap.grown", defArgs s_Wrap_grown, defBody s_Wrap_grown, defScope s_Wrap_grown, [], []⟩
def dd_Wrap___eq__ : He.DefD := ⟨("Wrap", some "__eq__"), "__eq__", "Wrap.__eq__", defArgs s_Wrap___eq__, defBody s_Wrap___eq__, defScope s_Wrap___eq__, [], []⟩
def dd_Wrap___str__ : He.DefD := ⟨("Wrap", some "__str__"), "__str__", "Wrap.__str__", defArgs s_Wrap___str__, defBody s_Wrap___str__, defScope s_Wrap___str__, [], []⟩
def dd_Stack___init__ : He.DefD := ⟨("Stack", some "__init__"), "__init__", "Stack.__init__", defArgs s_Stack___init__, defBody s_Stack___init__, defScope s_Stack___init__, [], []⟩
def dd_Stack_grown : He.DefD := ⟨("Stack", some "grown"), "grown", "Stack.grown", defArgs s_Stack_grown, defBody s_Stack_grown, defScope s_Stack_grown, [], []⟩
def dd_Stack___len__ : He.DefD := ⟨("Stack", some "__len__"), "__len__", "Stack.__len__", defArgs s_Stack___len__, defBody s_Stack___len__, defScope s_Stack___len__, [], []⟩
def dd_Stack___eq__ : He.DefD := ⟨("Stack", some "__eq__"), "__eq__", "Stack.__eq__", defArgs s_Stack___eq__, defBody s_Stack___eq__, defScope s_Stack___eq__, [], []⟩
def dd_Road___init__ : He.DefD := ⟨("Road", some "__init__"), "__init__", "Road.__init__", defArgs s_Road___init__, defBody s_Road___init__, defScope s_Road___init__, [], []⟩
def dd_Road_push : He.DefD := ⟨("Road", some "push"), "push", "Road.push", defArgs s_Road_push, defBody s_Road_push, defScope s_Road_push, [], []⟩
def dd_Road_pop : He.DefD := ⟨("Road", some "pop"), "pop", "Road.pop", defArgs s_Road_pop, defBody s_Road_pop, defScope s_Road_pop, [], []⟩
def dd_Road_bound : He.DefD := ⟨("Road", some "bound"), "bound", "Road.bound", defArgs s_Road_bound, defBody s_Road_bound, defScope s_Road_bound, [], []⟩
def dd_Road_sizes : He.DefD := ⟨("Road", some "sizes"), "sizes", "Road.sizes", defArgs s_Road_sizes, defBody s_Road_sizes, defScope s_Road_sizes, [], []⟩
def dd_Road_fits : He.DefD := ⟨("Road", some "fits"), "fits", "Road.fits", defArgs s_Road_fits, defBody s_Road_fits, defScope s_Road_fits, [], []⟩
def dd_Road_greatest : He.DefD := ⟨("Road", some "greatest"), "greatest", "Road.greatest", defArgs s_Road_greatest, defBody s_Road_greatest, defScope s_Road_greatest, [], []⟩
def dd_Road___len__ : He.DefD := ⟨("Road", some "__len__"), "__len__", "Road.__len__", defArgs s_Road___len__, defBody s_Road___len__, defScope s_Road___len__, [], []⟩
def dd_Stack_read : He5.DefA := { at_ := fun K => sA K "Stack" "read", name := "read", qual := "Stack.read", params := defArgs s_Stack_read, body := defBody s_Stack_read, scope := defScope s_Stack_read }
def smL : List He5.DefA := [dd_Stack_read]
def fnL : List He.DefD := [dd__wall, dd_is_integer, dd_is_between, dd_check_length, dd_check_base, dd_figures_of, dd_amount_of, dd_fault_in, dd_begun, dd_total_of, dd_in_pieces, dd_wrap_in, dd_check_wrap, dd_fineness_of, dd_check_wraps, dd_stack_in, dd_check_stack, dd_greatest_within, dd_payload, dd_stack_behind, dd_sizes_along, dd_reaches, dd_least_reach, dd_check_free, dd_check_push, dd_add_step, dd_L_bowl, dd_L_scoop, dd_L_one_of, dd_L_figures, dd_L_parts, dd_L_grown, dd_L_size, dd_L_small, dd_L_plan, dd_L_fine, dd_L_plans, dd_L_root, dd_L_wrap, dd_L_words, dd_L_rows, dd_L_stack, dd_L_far, dd_L_fine_all, dd_L_walked, dd_L_right, dd_law, dd_Wrap___init__, dd_Wrap_grown, dd_Wrap___eq__, dd_Wrap___str__, dd_Stack___init__, dd_Stack_grown, dd_Stack___len__, dd_Stack___eq__, dd_Road___init__, dd_Road_push, dd_Road_pop, dd_Road_bound, dd_Road_sizes, dd_Road_fits, dd_Road_greatest, dd_Road___len__]
def faL : List He.Fa := [.glo "_wall", .glo "is_integer", .glo "is_between", .glo "check_length", .glo "check_base", .glo "figures_of", .glo "amount_of", .glo "fault_in", .glo "begun", .glo "total_of", .glo "in_pieces", .glo "wrap_in", .glo "check_wrap", .glo "fineness_of", .glo "check_wraps", .glo "stack_in", .glo "check_stack", .glo "greatest_within", .glo "payload", .glo "stack_behind", .glo "sizes_along", .glo "reaches", .glo "least_reach", .glo "check_free", .glo "check_push", .glo "add_step", .glo "_law_bowl", .glo "_law_scoop", .glo "_law_one_of", .glo "_law_figures", .glo "_law_parts", .glo "_law_grown", .glo "_law_size", .glo "_law_small", .glo "_law_plan", .glo "_law_fine", .glo "_law_plans", .glo "_law_root", .glo "_law_wrap", .glo "_law_words", .glo "_law_rows", .glo "_law_stack", .glo "_law_far", .glo "_law_fine_all", .glo "_law_walked", .glo "_law_right", .glo "law", .free "abs", .free "all", .free "divmod", .free "enumerate", .free "int", .free "isinstance", .free "len", .free "max", .free "min", .free "range", .free "repr", .free "str", .free "tuple", .free "zip", .int "MOST_LENGTH" 1000000000000000000000000000000000000000000000000000000000000, .int "MOST_WRAPS" 6, .int "MOST_FINENESS" 120, .int "MOST_CONSTANT" 1000, .int "LEAST_BASE" 2, .int "MOST_BASE" 256, .int "MOST_PIECE" 60, .int "MOST_CODE" 120, .int "LAST_LENGTH" 999999999999999999999999999999999999999999999999999999999999, .str "TENS" "0123456789", .glo "Wrap", .cls "Wrap", .mkr "Wrap", .noat "Wrap" "kind", .noat "Wrap" "numbers", .noat "Wrap" "words", .meth "Wrap" "__init__", .meth "Wrap" "grown", .meth "Wrap" "__eq__", .meth "Wrap" "__str__", .glo "Stack", .cls "Stack", .mkr "Stack", .noat "Stack" "base", .noat "Stack" "wraps", .noat "Stack" "fineness", .meth "Stack" "__init__", .meth "Stack" "grown", .meth "Stack" "__len__", .meth "Stack" "__eq__", .glo "Road", .cls "Road", .mkr "Road", .noat "Road" "base", .noat "Road" "steps", .noat "Road" "stack", .noat "Road" "busy", .meth "Road" "__init__", .meth "Road" "push", .meth "Road" "pop", .meth "Road" "bound", .meth "Road" "sizes", .meth "Road" "fits", .meth "Road" "greatest", .meth "Road" "__len__", .glo "RANGES"]
def loose0 : List Str := ["_wall", "is_integer", "is_between", "check_length", "check_base", "figures_of", "amount_of", "fault_in", "begun", "total_of", "in_pieces", "wrap_in", "check_wrap", "fineness_of", "check_wraps", "stack_in", "check_stack", "greatest_within", "payload", "stack_behind", "sizes_along", "reaches", "least_reach", "check_free", "check_push", "add_step", "_law_bowl", "_law_scoop", "_law_one_of", "_law_figures"]
def loose1 : List Str := ["_law_parts", "_law_grown", "_law_size", "_law_small", "_law_plan", "_law_fine", "_law_plans", "_law_root", "_law_wrap", "_law_words", "_law_rows", "_law_stack", "_law_far", "_law_fine_all", "_law_walked", "_law_right", "Misfit", "Untimely", "Excess", "NotAWrap", "NotAStack", "InvalidKind", "InvalidBase", "InvalidLength", "InvalidNumber", "InvalidText", "InvalidNumbers", "InvalidWraps", "NothingToPop", "Busy"]
def loose2 : List Str := ["TooFine", "TooManyWraps", "Wrap", "Stack", "Road", "MOST_LENGTH", "MOST_WRAPS", "MOST_FINENESS", "MOST_CONSTANT", "TENS", "LEAST_BASE", "MOST_BASE", "MOST_PIECE", "MOST_CODE", "RANGES", "LAST_LENGTH"]
def looseL : List Str := loose0 ++ loose1 ++ loose2
abbrev RR : PySem.W.OpenRow := PySem.W.OpenLaw.row PySem.Challenge.rw_sizestacks_k82_whole_roads_by_payloads
def tabL : List He.Tab := [(fun K => He.ga K "RANGES", ["plus", "told", "whole", "pieces", "cut", "coded", "filled"])]
def fbL (K : PySem.W.Frag) : Bool := [isiB K (He.ga K "Wrap"), isiB K (He.ga K "Stack"), isiB K (He.ga K "Road"), strB K (He.ga K "Stack"), decide (He.ga K "Stack" ≠ He.ga K "Wrap"), decide (He.ga K "Road" ≠ He.ga K "Wrap"), decide (He.ga K "Road" ≠ He.ga K "Stack"), smB K "Stack" "read", noSubB K (He.ga K "Stack"), noSubB K (He.ga K "Wrap"), kitTabB K ["Wrap", "Stack"], rngB K (He.ga K "RANGES") (Wr.plus 0).kind (Wr.plus 0).rng, rngB K (He.ga K "RANGES") (Wr.told 0).kind (Wr.told 0).rng, rngB K (He.ga K "RANGES") (Wr.whole 0).kind (Wr.whole 0).rng, rngB K (He.ga K "RANGES") (Wr.pieces 0 0).kind (Wr.pieces 0 0).rng, rngB K (He.ga K "RANGES") (Wr.cut 0 0).kind (Wr.cut 0 0).rng, rngB K (He.ga K "RANGES") (Wr.coded 0 0).kind (Wr.coded 0 0).rng, rngB K (He.ga K "RANGES") (Wr.filled 0).kind (Wr.filled 0).rng, keysB K (He.ga K "RANGES")].all id
abbrev hk : PySem.W.Hook := hookS 5 fbL faL fnL tabL tfL smL
def ob (z : PySem.W.SharedT) : (Bool × AlX) × He.AlD := obsSG 5 fbL faL fnL tabL tfL smL (HandSHeadRun.getT z)
theorem ob_eq (z : PySem.W.SharedT) : ob z = hk.obs z.abs := obsSG_eq (HandSHeadRun.getT_eq z)
theorem runF (w : World) : HandSHeadRun.RunEq RR (PySem.W.view RR.prog [83]) hk ob 30000 looseL (w.withFollow "special-get-raises" false) := by
  intro os
  kernel_rfl
theorem runT (w : World) : HandSHeadRun.RunEq RR (PySem.W.view RR.prog [83]) hk ob 30000 looseL (w.withFollow "special-get-raises" true) := by
  intro os
  kernel_rfl
theorem run (w : World) : HandSHeadRun.RunEq RR (PySem.W.view RR.prog [83]) hk ob 30000 looseL w :=
  PySem.W.byRow2 "special-get-raises" (P := fun w => HandSHeadRun.RunEq RR (PySem.W.view RR.prog [83]) hk ob 30000 looseL w) runF runT w
theorem tx_of {w : World} {K : PySem.W.Frag} {h : Heap} {mg : Str → Option Value} (X : K.In h) (G : h.Ns mainGlobals mg) (c0 : SaysX fbL faL fnL tabL w K) (s0 : He5.SaysA [] smL K) : Tx w K mg := by
  have c : He.SaysD faL fnL K := c0.t.d
  exact {
    d__wall := let ⟨fd, F⟩ := c.def_ 0 (d := dd__wall) rfl; ⟨_, fd, F, He.glo_ok X G (c.fact 0 (f := .glo "_wall") rfl)⟩,
    d_is_integer := let ⟨fd, F⟩ := c.def_ 1 (d := dd_is_integer) rfl; ⟨_, fd, F, He.glo_ok X G (c.fact 1 (f := .glo "is_integer") rfl)⟩,
    d_is_between := let ⟨fd, F⟩ := c.def_ 2 (d := dd_is_between) rfl; ⟨_, fd, F, He.glo_ok X G (c.fact 2 (f := .glo "is_between") rfl)⟩,
    d_check_length := let ⟨fd, F⟩ := c.def_ 3 (d := dd_check_length) rfl; ⟨_, fd, F, He.glo_ok X G (c.fact 3 (f := .glo "check_length") rfl)⟩,
    d_check_base := let ⟨fd, F⟩ := c.def_ 4 (d := dd_check_base) rfl; ⟨_, fd, F, He.glo_ok X G (c.fact 4 (f := .glo "check_base") rfl)⟩,
    d_figures_of := let ⟨fd, F⟩ := c.def_ 5 (d := dd_figures_of) rfl; ⟨_, fd, F, He.glo_ok X G (c.fact 5 (f := .glo "figures_of") rfl)⟩,
    d_amount_of := let ⟨fd, F⟩ := c.def_ 6 (d := dd_amount_of) rfl; ⟨_, fd, F, He.glo_ok X G (c.fact 6 (f := .glo "amount_of") rfl)⟩,
    d_fault_in := let ⟨fd, F⟩ := c.def_ 7 (d := dd_fault_in) rfl; ⟨_, fd, F, He.glo_ok X G (c.fact 7 (f := .glo "fault_in") rfl)⟩,
    d_begun := let ⟨fd, F⟩ := c.def_ 8 (d := dd_begun) rfl; ⟨_, fd, F, He.glo_ok X G (c.fact 8 (f := .glo "begun") rfl)⟩,
    d_total_of := let ⟨fd, F⟩ := c.def_ 9 (d := dd_total_of) rfl; ⟨_, fd, F, He.glo_ok X G (c.fact 9 (f := .glo "total_of") rfl)⟩,
    d_in_pieces := let ⟨fd, F⟩ := c.def_ 10 (d := dd_in_pieces) rfl; ⟨_, fd, F, He.glo_ok X G (c.fact 10 (f := .glo "in_pieces") rfl)⟩,
    d_wrap_in := let ⟨fd, F⟩ := c.def_ 11 (d := dd_wrap_in) rfl; ⟨_, fd, F, He.glo_ok X G (c.fact 11 (f := .glo "wrap_in") rfl)⟩,
    d_check_wrap := let ⟨fd, F⟩ := c.def_ 12 (d := dd_check_wrap) rfl; ⟨_, fd, F, He.glo_ok X G (c.fact 12 (f := .glo "check_wrap") rfl)⟩,
    d_fineness_of := let ⟨fd, F⟩ := c.def_ 13 (d := dd_fineness_of) rfl; ⟨_, fd, F, He.glo_ok X G (c.fact 13 (f := .glo "fineness_of") rfl)⟩,
    d_check_wraps := let ⟨fd, F⟩ := c.def_ 14 (d := dd_check_wraps) rfl; ⟨_, fd, F, He.glo_ok X G (c.fact 14 (f := .glo "check_wraps") rfl)⟩,
    d_stack_in := let ⟨fd, F⟩ := c.def_ 15 (d := dd_stack_in) rfl; ⟨_, fd, F, He.glo_ok X G (c.fact 15 (f := .glo "stack_in") rfl)⟩,
    d_check_stack := let ⟨fd, F⟩ := c.def_ 16 (d := dd_check_stack) rfl; ⟨_, fd, F, He.glo_ok X G (c.fact 16 (f := .glo "check_stack") rfl)⟩,
    d_greatest_within := let ⟨fd, F⟩ := c.def_ 17 (d := dd_greatest_within) rfl; ⟨_, fd, F, He.glo_ok X G (c.fact 17 (f := .glo "greatest_within") rfl)⟩,
    d_payload := let ⟨fd, F⟩ := c.def_ 18 (d := dd_payload) rfl; ⟨_, fd, F, He.glo_ok X G (c.fact 18 (f := .glo "payload") rfl)⟩,
    d_stack_behind := let ⟨fd, F⟩ := c.def_ 19 (d := dd_stack_behind) rfl; ⟨_, fd, F, He.glo_ok X G (c.fact 19 (f := .glo "stack_behind") rfl)⟩,
    d_sizes_along := let ⟨fd, F⟩ := c.def_ 20 (d := dd_sizes_along) rfl; ⟨_, fd, F, He.glo_ok X G (c.fact 20 (f := .glo "sizes_along") rfl)⟩,
    d_reaches := let ⟨fd, F⟩ := c.def_ 21 (d := dd_reaches) rfl; ⟨_, fd, F, He.glo_ok X G (c.fact 21 (f := .glo "reaches") rfl)⟩,
    d_least_reach := let ⟨fd, F⟩ := c.def_ 22 (d := dd_least_reach) rfl; ⟨_, fd, F, He.glo_ok X G (c.fact 22 (f := .glo "least_reach") rfl)⟩,
    d_check_free := let ⟨fd, F⟩ := c.def_ 23 (d := dd_check_free) rfl; ⟨_, fd, F, He.glo_ok X G (c.fact 23 (f := .glo "check_free") rfl)⟩,
    d_check_push := let ⟨fd, F⟩ := c.def_ 24 (d := dd_check_push) rfl; ⟨_, fd, F, He.glo_ok X G (c.fact 24 (f := .glo "check_push") rfl)⟩,
    d_add_step := let ⟨fd, F⟩ := c.def_ 25 (d := dd_add_step) rfl; ⟨_, fd, F, He.glo_ok X G (c.fact 25 (f := .glo "add_step") rfl)⟩,
    d_L_bowl := let ⟨fd, F⟩ := c.def_ 26 (d := dd_L_bowl) rfl; ⟨_, fd, F, He.glo_ok X G (c.fact 26 (f := .glo "_law_bowl") rfl)⟩,
    d_L_scoop := let ⟨fd, F⟩ := c.def_ 27 (d := dd_L_scoop) rfl; ⟨_, fd, F, He.glo_ok X G (c.fact 27 (f := .glo "_law_scoop") rfl)⟩,
    d_L_one_of := let ⟨fd, F⟩ := c.def_ 28 (d := dd_L_one_of) rfl; ⟨_, fd, F, He.glo_ok X G (c.fact 28 (f := .glo "_law_one_of") rfl)⟩,
    d_L_figures := let ⟨fd, F⟩ := c.def_ 29 (d := dd_L_figures) rfl; ⟨_, fd, F, He.glo_ok X G (c.fact 29 (f := .glo "_law_figures") rfl)⟩,
    d_L_parts := let ⟨fd, F⟩ := c.def_ 30 (d := dd_L_parts) rfl; ⟨_, fd, F, He.glo_ok X G (c.fact 30 (f := .glo "_law_parts") rfl)⟩,
    d_L_grown := let ⟨fd, F⟩ := c.def_ 31 (d := dd_L_grown) rfl; ⟨_, fd, F, He.glo_ok X G (c.fact 31 (f := .glo "_law_grown") rfl)⟩,
    d_L_size := let ⟨fd, F⟩ := c.def_ 32 (d := dd_L_size) rfl; ⟨_, fd, F, He.glo_ok X G (c.fact 32 (f := .glo "_law_size") rfl)⟩,
    d_L_small := let ⟨fd, F⟩ := c.def_ 33 (d := dd_L_small) rfl; ⟨_, fd, F, He.glo_ok X G (c.fact 33 (f := .glo "_law_small") rfl)⟩,
    d_L_plan := let ⟨fd, F⟩ := c.def_ 34 (d := dd_L_plan) rfl; ⟨_, fd, F, He.glo_ok X G (c.fact 34 (f := .glo "_law_plan") rfl)⟩,
    d_L_fine := let ⟨fd, F⟩ := c.def_ 35 (d := dd_L_fine) rfl; ⟨_, fd, F, He.glo_ok X G (c.fact 35 (f := .glo "_law_fine") rfl)⟩,
    d_L_plans := let ⟨fd, F⟩ := c.def_ 36 (d := dd_L_plans) rfl; ⟨_, fd, F, He.glo_ok X G (c.fact 36 (f := .glo "_law_plans") rfl)⟩,
    d_L_root := let ⟨fd, F⟩ := c.def_ 37 (d := dd_L_root) rfl; ⟨_, fd, F, He.glo_ok X G (c.fact 37 (f := .glo "_law_root") rfl)⟩,
    d_L_wrap := let ⟨fd, F⟩ := c.def_ 38 (d := dd_L_wrap) rfl; ⟨_, fd, F, He.glo_ok X G (c.fact 38 (f := .glo "_law_wrap") rfl)⟩,
    d_L_words := let ⟨fd, F⟩ := c.def_ 39 (d := dd_L_words) rfl; ⟨_, fd, F, He.glo_ok X G (c.fact 39 (f := .glo "_law_words") rfl)⟩,
    d_L_rows := let ⟨fd, F⟩ := c.def_ 40 (d := dd_L_rows) rfl; ⟨_, fd, F, He.glo_ok X G (c.fact 40 (f := .glo "_law_rows") rfl)⟩,
    d_L_stack := let ⟨fd, F⟩ := c.def_ 41 (d := dd_L_stack) rfl; ⟨_, fd, F, He.glo_ok X G (c.fact 41 (f := .glo "_law_stack") rfl)⟩,
    d_L_far := let ⟨fd, F⟩ := c.def_ 42 (d := dd_L_far) rfl; ⟨_, fd, F, He.glo_ok X G (c.fact 42 (f := .glo "_law_far") rfl)⟩,
    d_L_fine_all := let ⟨fd, F⟩ := c.def_ 43 (d := dd_L_fine_all) rfl; ⟨_, fd, F, He.glo_ok X G (c.fact 43 (f := .glo "_law_fine_all") rfl)⟩,
    d_L_walked := let ⟨fd, F⟩ := c.def_ 44 (d := dd_L_walked) rfl; ⟨_, fd, F, He.glo_ok X G (c.fact 44 (f := .glo "_law_walked") rfl)⟩,
    d_L_right := let ⟨fd, F⟩ := c.def_ 45 (d := dd_L_right) rfl; ⟨_, fd, F, He.glo_ok X G (c.fact 45 (f := .glo "_law_right") rfl)⟩,
    d_law := let ⟨fd, F⟩ := c.def_ 46 (d := dd_law) rfl; ⟨_, fd, F, He.glo_ok X G (c.fact 46 (f := .glo "law") rfl)⟩,
    b_abs := He.free_ok X G (c.fact 47 (f := .free "abs") rfl),
    b_all := He.free_ok X G (c.fact 48 (f := .free "all") rfl),
    b_divmod := He.free_ok X G (c.fact 49 (f := .free "divmod") rfl),
    b_enumerate := He.free_ok X G (c.fact 50 (f := .free "enumerate") rfl),
    b_int := He.free_ok X G (c.fact 51 (f := .free "int") rfl),
    b_isinstance := He.free_ok X G (c.fact 52 (f := .free "isinstance") rfl),
    b_len := He.free_ok X G (c.fact 53 (f := .free "len") rfl),
    b_max := He.free_ok X G (c.fact 54 (f := .free "max") rfl),
    b_min := He.free_ok X G (c.fact 55 (f := .free "min") rfl),
    b_range := He.free_ok X G (c.fact 56 (f := .free "range") rfl),
    b_repr := He.free_ok X G (c.fact 57 (f := .free "repr") rfl),
    b_str := He.free_ok X G (c.fact 58 (f := .free "str") rfl),
    b_tuple := He.free_ok X G (c.fact 59 (f := .free "tuple") rfl),
    b_zip := He.free_ok X G (c.fact 60 (f := .free "zip") rfl),
    c_MOST_LENGTH := He.int_ok X G (c.fact 61 (f := .int "MOST_LENGTH" 1000000000000000000000000000000000000000000000000000000000000) rfl),
    c_MOST_WRAPS := He.int_ok X G (c.fact 62 (f := .int "MOST_WRAPS" 6) rfl),
    c_MOST_FINENESS := He.int_ok X G (c.fact 63 (f := .int "MOST_FINENESS" 120) rfl),
    c_MOST_CONSTANT := He.int_ok X G (c.fact 64 (f := .int "MOST_CONSTANT" 1000) rfl),
    c_LEAST_BASE := He.int_ok X G (c.fact 65 (f := .int "LEAST_BASE" 2) rfl),
    c_MOST_BASE := He.int_ok X G (c.fact 66 (f := .int "MOST_BASE" 256) rfl),
    c_MOST_PIECE := He.int_ok X G (c.fact 67 (f := .int "MOST_PIECE" 60) rfl),
    c_MOST_CODE := He.int_ok X G (c.fact 68 (f := .int "MOST_CODE" 120) rfl),
    c_LAST_LENGTH := He.int_ok X G (c.fact 69 (f := .int "LAST_LENGTH" 999999999999999999999999999999999999999999999999999999999999) rfl),
    c_TENS := He.str_ok X G (c.fact 70 (f := .str "TENS" "0123456789") rfl),
    k_Wrap := He.glo_ok X G (c.fact 71 (f := .glo "Wrap") rfl),
    cl_Wrap := He.cls_ok (c.fact 72 (f := .cls "Wrap") rfl),
    mk_Wrap := He.mkr_ok (c.fact 73 (f := .mkr "Wrap") rfl),
    na_Wrap_kind := He.noat_ok (c.fact 74 (f := .noat "Wrap" "kind") rfl),
    na_Wrap_numbers := He.noat_ok (c.fact 75 (f := .noat "Wrap" "numbers") rfl),
    na_Wrap_words := He.noat_ok (c.fact 76 (f := .noat "Wrap" "words") rfl),
    me_Wrap___init__ := He.meth_ok (c.fact 77 (f := .meth "Wrap" "__init__") rfl),
    me_Wrap_grown := He.meth_ok (c.fact 78 (f := .meth "Wrap" "grown") rfl),
    me_Wrap___eq__ := He.meth_ok (c.fact 79 (f := .meth "Wrap" "__eq__") rfl),
    me_Wrap___str__ := He.meth_ok (c.fact 80 (f := .meth "Wrap" "__str__") rfl),
    k_Stack := He.glo_ok X G (c.fact 81 (f := .glo "Stack") rfl),
    cl_Stack := He.cls_ok (c.fact 82 (f := .cls "Stack") rfl),
    mk_Stack := He.mkr_ok (c.fact 83 (f := .mkr "Stack") rfl),
    na_Stack_base := He.noat_ok (c.fact 84 (f := .noat "Stack" "base") rfl),
    na_Stack_wraps := He.noat_ok (c.fact 85 (f := .noat "Stack" "wraps") rfl),
    na_Stack_fineness := He.noat_ok (c.fact 86 (f := .noat "Stack" "fineness") rfl),
    me_Stack___init__ := He.meth_ok (c.fact 87 (f := .meth "Stack" "__init__") rfl),
    me_Stack_grown := He.meth_ok (c.fact 88 (f := .meth "Stack" "grown") rfl),
    me_Stack___len__ := He.meth_ok (c.fact 89 (f := .meth "Stack" "__len__") rfl),
    me_Stack___eq__ := He.meth_ok (c.fact 90 (f := .meth "Stack" "__eq__") rfl),
    k_Road := He.glo_ok X G (c.fact 91 (f := .glo "Road") rfl),
    cl_Road := He.cls_ok (c.fact 92 (f := .cls "Road") rfl),
    mk_Road := He.mkr_ok (c.fact 93 (f := .mkr "Road") rfl),
    na_Road_base := He.noat_ok (c.fact 94 (f := .noat "Road" "base") rfl),
    na_Road_steps := He.noat_ok (c.fact 95 (f := .noat "Road" "steps") rfl),
    na_Road_stack := He.noat_ok (c.fact 96 (f := .noat "Road" "stack") rfl),
    na_Road_busy := He.noat_ok (c.fact 97 (f := .noat "Road" "busy") rfl),
    me_Road___init__ := He.meth_ok (c.fact 98 (f := .meth "Road" "__init__") rfl),
    me_Road_push := He.meth_ok (c.fact 99 (f := .meth "Road" "push") rfl),
    me_Road_pop := He.meth_ok (c.fact 100 (f := .meth "Road" "pop") rfl),
    me_Road_bound := He.meth_ok (c.fact 101 (f := .meth "Road" "bound") rfl),
    me_Road_sizes := He.meth_ok (c.fact 102 (f := .meth "Road" "sizes") rfl),
    me_Road_fits := He.meth_ok (c.fact 103 (f := .meth "Road" "fits") rfl),
    me_Road_greatest := He.meth_ok (c.fact 104 (f := .meth "Road" "greatest") rfl),
    me_Road___len__ := He.meth_ok (c.fact 105 (f := .meth "Road" "__len__") rfl),
    k_RANGES := He.glo_ok X G (c.fact 106 (f := .glo "RANGES") rfl),
    dm_Wrap___init__ := c.def_ 47 (d := dd_Wrap___init__) rfl,
    dm_Wrap_grown := c.def_ 48 (d := dd_Wrap_grown) rfl,
    dm_Wrap___eq__ := c.def_ 49 (d := dd_Wrap___eq__) rfl,
    dm_Wrap___str__ := c.def_ 50 (d := dd_Wrap___str__) rfl,
    dm_Stack___init__ := c.def_ 51 (d := dd_Stack___init__) rfl,
    dm_Stack_grown := c.def_ 52 (d := dd_Stack_grown) rfl,
    dm_Stack___len__ := c.def_ 53 (d := dd_Stack___len__) rfl,
    dm_Stack___eq__ := c.def_ 54 (d := dd_Stack___eq__) rfl,
    dm_Road___init__ := c.def_ 55 (d := dd_Road___init__) rfl,
    dm_Road_push := c.def_ 56 (d := dd_Road_push) rfl,
    dm_Road_pop := c.def_ 57 (d := dd_Road_pop) rfl,
    dm_Road_bound := c.def_ 58 (d := dd_Road_bound) rfl,
    dm_Road_sizes := c.def_ 59 (d := dd_Road_sizes) rfl,
    dm_Road_fits := c.def_ 60 (d := dd_Road_fits) rfl,
    dm_Road_greatest := c.def_ 61 (d := dd_Road_greatest) rfl,
    dm_Road___len__ := c.def_ 62 (d := dd_Road___len__) rfl,
    kd := c0.t.tab 0 (t := (fun K => He.ga K "RANGES", ["plus", "told", "whole", "pieces", "cut", "coded", "filled"])) rfl,
    rg := fun a => by
      cases a with
      | plus _ => exact rngB_ok (K := K) (kd := (Wr.plus 0).kind) (qs := (Wr.plus 0).rng) (List.all_eq_true.mp c0.b _ (.tail _ (.tail _ (.tail _ (.tail _ (.tail _ (.tail _ (.tail _ (.tail _ (.tail _ (.tail _ (.tail _ (.head _)))))))))))))
      | told _ => exact rngB_ok (K := K) (kd := (Wr.told 0).kind) (qs := (Wr.told 0).rng) (List.all_eq_true.mp c0.b _ (.tail _ (.tail _ (.tail _ (.tail _ (.tail _ (.tail _ (.tail _ (.tail _ (.tail _ (.tail _ (.tail _ (.tail _ (.head _))))))))))))))
      | whole _ => exact rngB_ok (K := K) (kd := (Wr.whole 0).kind) (qs := (Wr.whole 0).rng) (List.all_eq_true.mp c0.b _ (.tail _ (.tail _ (.tail _ (.tail _ (.tail _ (.tail _ (.tail _ (.tail _ (.tail _ (.tail _ (.tail _ (.tail _ (.tail _ (.head _)))))))))))))))
      | pieces _ _ => exact rngB_ok (K := K) (kd := (Wr.pieces 0 0).kind) (qs := (Wr.pieces 0 0).rng) (List.all_eq_true.mp c0.b _ (.tail _ (.tail _ (.tail _ (.tail _ (.tail _ (.tail _ (.tail _ (.tail _ (.tail _ (.tail _ (.tail _ (.tail _ (.tail _ (.tail _ (.head _))))))))))))))))
      | cut _ _ => exact rngB_ok (K := K) (kd := (Wr.cut 0 0).kind) (qs := (Wr.cut 0 0).rng) (List.all_eq_true.mp c0.b _ (.tail _ (.tail _ (.tail _ (.tail _ (.tail _ (.tail _ (.tail _ (.tail _ (.tail _ (.tail _ (.tail _ (.tail _ (.tail _ (.tail _ (.tail _ (.head _)))))))))))))))))
      | coded _ _ => exact rngB_ok (K := K) (kd := (Wr.coded 0 0).kind) (qs := (Wr.coded 0 0).rng) (List.all_eq_true.mp c0.b _ (.tail _ (.tail _ (.tail _ (.tail _ (.tail _ (.tail _ (.tail _ (.tail _ (.tail _ (.tail _ (.tail _ (.tail _ (.tail _ (.tail _ (.tail _ (.tail _ (.head _))))))))))))))))))
      | filled _ => exact rngB_ok (K := K) (kd := (Wr.filled 0).kind) (qs := (Wr.filled 0).rng) (List.all_eq_true.mp c0.b _ (.tail _ (.tail _ (.tail _ (.tail _ (.tail _ (.tail _ (.tail _ (.tail _ (.tail _ (.tail _ (.tail _ (.tail _ (.tail _ (.tail _ (.tail _ (.tail _ (.tail _ (.head _))))))))))))))))))),
    rn := fun _ hz => keysB_ok (List.all_eq_true.mp c0.b _ (.tail _ (.tail _ (.tail _ (.tail _ (.tail _ (.tail _ (.tail _ (.tail _ (.tail _ (.tail _ (.tail _ (.tail _ (.tail _ (.tail _ (.tail _ (.tail _ (.tail _ (.tail _ (.head _)))))))))))))))))))) hz,
    is_Wrap := isiB_ok (He.cls_ok (c.fact 72 (f := .cls "Wrap") rfl)) (List.all_eq_true.mp c0.b _ (.head _)),
    is_Stack := isiB_ok (He.cls_ok (c.fact 82 (f := .cls "Stack") rfl)) (List.all_eq_true.mp c0.b _ (.tail _ (.head _))),
    is_Road := isiB_ok (He.cls_ok (c.fact 92 (f := .cls "Road") rfl)) (List.all_eq_true.mp c0.b _ (.tail _ (.tail _ (.head _)))),
    ne_Stack_Wrap := of_decide_eq_true (List.all_eq_true.mp c0.b _ (.tail _ (.tail _ (.tail _ (.tail _ (.head _)))))),
    ne_Road_Wrap := of_decide_eq_true (List.all_eq_true.mp c0.b _ (.tail _ (.tail _ (.tail _ (.tail _ (.tail _ (.head _))))))),
    ne_Road_Stack := of_decide_eq_true (List.all_eq_true.mp c0.b _ (.tail _ (.tail _ (.tail _ (.tail _ (.tail _ (.tail _ (.head _)))))))),
    st_Stack := strB_ok (List.all_eq_true.mp c0.b _ (.tail _ (.tail _ (.tail _ (.head _))))),
    kt := kitTab_ok (List.all_eq_true.mp c0.b _ (.tail _ (.tail _ (.tail _ (.tail _ (.tail _ (.tail _ (.tail _ (.tail _ (.tail _ (.tail _ (.head _)))))))))))),
    sm_Stack_read := smB_ok (List.all_eq_true.mp c0.b _ (.tail _ (.tail _ (.tail _ (.tail _ (.tail _ (.tail _ (.tail _ (.head _))))))))),
    ds_Stack_read := s0.def_ 0 (d := dd_Stack_read) rfl,
    ns_Stack := noSub_ok (List.all_eq_true.mp c0.b _ (.tail _ (.tail _ (.tail _ (.tail _ (.tail _ (.tail _ (.tail _ (.tail _ (.head _)))))))))),
    ns_Wrap := noSub_ok (List.all_eq_true.mp c0.b _ (.tail _ (.tail _ (.tail _ (.tail _ (.tail _ (.tail _ (.tail _ (.tail _ (.tail _ (.head _))))))))))) }
def spLaw (K : PySem.W.Frag) : Sp := fun vs H Q _ => ∃ (a : Addr) (ns : List Int), vs = [.ref a] ∧ SqL K H a (ns.map V.int) ∧ ns.length ≤ 63 ∧ (∀ z ∈ ns, Builtin.Int.intBits z ≤ 1048576) ∧ LamX.Tabs (tabsOf K) H ∧ ∀ H', Q (.bl true) H'

/-! ### errors that leave -/
/-- an error of the class C leaves, with v in its field f -/
def Fails (K : PySem.W.Frag) (H : Hp) (E : XK) (C f : Str) (v : V) : Prop := ∀ d, H d = none → E (.ref (He.ga K C)) (some d) (upd H d (.xd [(f, v)]))
/-! ### what a number is (for numbers alone) -/
def spIsInt : Sp := fun vs H Q _ => ∃ i : Int, vs = [.int i] ∧ Q (.bl true) H
def spBetween : Sp := fun vs H Q _ => ∃ v l m : Int, vs = [.int v, .int l, .int m] ∧ Q (.bl (decide (l ≤ v ∧ v ≤ m))) H
def spLength : Sp := fun vs H Q _ => ∃ n : Int, vs = [.int n] ∧ 0 ≤ n ∧ n ≤ 10 ^ 60 - 1 ∧ Q .non H
def spBase : Sp := fun vs H Q _ => ∃ n : Int, vs = [.int n] ∧ 2 ≤ n ∧ n ≤ 256 ∧ Q .non H
def spFig : Sp := fun vs H Q _ => ∃ n b : Int, vs = [.int n, .int b] ∧ 2 ≤ b ∧ b ≤ 256 ∧ n < 2 ^ 4000 ∧ ∀ k, IsF b n k → Q (.int k) H
section
variable {P : Program} {w : World} {K : PySem.W.Frag} {mg : Str → Option Value} {base : Heap}
theorem ok_is_integer (T : Tx w K mg) : Prom P w K mg base CX0 1 "is_integer" s_is_integer ["value"] spIsInt := by
  refine Prom.of T.d_is_integer sc_is_integer (fun vs H Q E h => ?_) (fun _ _ _ _ _ _ us hl => match us, hl with | [_], _ => rfl) (fun f cdv A outer s H vs Q E hr h => ?_)
  · obtain ⟨i, rfl, _⟩ := h
    rfl
  · obtain ⟨i, rfl, k⟩ := h
    refine ⟨_, (pss_one (ps_ret (pe_and (pe_callB call_isi (by rfl) T.b_isinstance (by decide +kernel) (pa_cons (pv 0) (pa_cons (pe_bltn (v := .ty "int") (by rfl) T.b_int (by decide +kernel) rfl) pa_nil))) (pe_and (pe_cmpR op_isnotBl (pv 0) pe_bl (nomark _)) (pe_one (pe_cmpR op_isnotBl (pv 0) pe_bl (nomark _))))))), ?_⟩
    refine ⟨_, rfl, _, _, _, _, true, rfl, .ty _, .base (.int _), kit_ty (by decide +kernel), true, rfl, iteT ?_⟩
    refine ⟨_, rfl, _, rfl, true, rfl, iteT ?_⟩
    exact ⟨_, rfl, _, rfl, k⟩
theorem ok_is_between (T : Tx w K mg) : Prom P w K mg base CX0 2 "is_between" s_is_between ["value", "least", "most"] spBetween := by
  refine Prom.of T.d_is_between sc_is_between (fun vs H Q E h => ?_) (fun _ _ _ _ _ _ us hl => match us, hl with | [_, _, _], _ => rfl) (fun f cdv A outer s H vs Q E hr h => ?_)
  · obtain ⟨v, l, m, rfl, _⟩ := h
    rfl
  · obtain ⟨v, l, m, rfl, k⟩ := h
    refine ⟨_, (pss_one (ps_ret (pe_and (pe_callP (ok_is_integer T) (hr.mono (by decide)) (by rfl) pass0 (pa_cons (pv 0) pa_nil)) (pe_one (pe_chain op_le op_le (pv 1) (pv 0) (pv 2)))))), ?_⟩
    refine ⟨_, rfl, v, rfl, true, rfl, iteT ?_⟩
    refine ⟨_, rfl, _, rfl, _, _, rfl, rfl, _, rfl, ifd (fun h1 => ?_) (fun h1 => ?_)⟩
    · refine ⟨_, rfl, _, _, rfl, rfl, ?_⟩
      show Q (.bl (decide (v ≤ m))) H
      have e : decide (v ≤ m) = decide (l ≤ v ∧ v ≤ m) := by simp [h1]
      rw [e]
      exact k
    · show Q (.bl false) H
      have e : false = decide (l ≤ v ∧ v ≤ m) := by simp [h1]
      rw [e]
      exact k
end
section
variable {P : Program} {w : World} {K : PySem.W.Frag} {mg : Str → Option Value} {base : Heap}
theorem ok_check_length (T : Tx w K mg) : Prom P w K mg base CX0 3 "check_length" s_check_length ["value"] spLength := by
  refine Prom.of T.d_check_length sc_check_length (fun vs H Q E h => ?_) (fun _ _ _ _ _ _ us hl => match us, hl with | [_], _ => rfl) (fun f cdv A outer s H vs Q E hr h => ?_)
  · obtain ⟨i, rfl, _⟩ := h
    rfl
  · obtain ⟨i, rfl, h0, h1, k⟩ := h
    refine ⟨_, (pss_one (ps_if (pt_not (pt_val (pe_callP (ok_is_between T) (hr.mono (by decide)) (by rfl) pass0 (pa_cons (pv 0) (pa_cons pe_int (pa_cons (pe_op op_sub (pe_gint T.c_MOST_LENGTH) pe_int) pa_nil)))))) (pss_one ps_never) pss_nil)), ?_⟩
    refine ⟨_, rfl, _, _, rfl, rfl, _, _, _, rfl, _, rfl, ?_⟩
    exact ifn (fun c => absurd (show (0 : Int) ≤ i ∧ i ≤ _ from ⟨h0, by omega⟩) c) (fun _ => k)
end
section
variable {P : Program} {w : World} {K : PySem.W.Frag} {mg : Str → Option Value} {base : Heap}
theorem ok_check_base (T : Tx w K mg) : Prom P w K mg base CX0 3 "check_base" s_check_base ["value"] spBase := by
  refine Prom.of T.d_check_base sc_check_base (fun vs H Q E h => ?_) (fun _ _ _ _ _ _ us hl => match us, hl with | [_], _ => rfl) (fun f cdv A outer s H vs Q E hr h => ?_)
  · obtain ⟨i, rfl, _⟩ := h
    rfl
  · obtain ⟨i, rfl, h0, h1, k⟩ := h
    refine ⟨_, (pss_one (ps_if (pt_not (pt_val (pe_callP (ok_is_between T) (hr.mono (by decide)) (by rfl) pass0 (pa_cons (pv 0) (pa_cons (pe_gint T.c_LEAST_BASE) (pa_cons (pe_gint T.c_MOST_BASE) pa_nil)))))) (pss_one ps_never) pss_nil)), ?_⟩
    refine ⟨_, rfl, _, _, _, rfl, _, rfl, ?_⟩
    exact ifn (fun c => absurd (show (2 : Int) ≤ i ∧ i ≤ 256 from ⟨h0, h1⟩) c) (fun _ => k)
end
section
variable {P : Program} {w : World} {K : PySem.W.Frag} {mg : Str → Option Value} {base : Heap}
theorem fig_mul {b p e n : Int} {j : Nat} (hb : 2 ≤ b) (hb2 : b ≤ 256) (hn : n < 2 ^ 4000) (hp : p = b ^ (j + 1)) (hj : j = 0 ∨ b ^ j ≤ n) (he : e = b ^ 8) : CMulW p e := by
  have b8 : b ^ 8 ≤ 256 ^ 8 := by
    have g : ∀ m : Nat, b ^ m ≤ 256 ^ m := fun m => by
      induction m with
      | zero => rw [Int.pow_zero, Int.pow_zero]; exact Int.le_refl _
      | succ m ih =>
        rw [Int.pow_succ, Int.pow_succ]
        exact Int.mul_le_mul ih hb2 (by omega) (Int.le_of_lt (Int.lt_of_lt_of_le (by decide) (pow_pos (show (1 : Int) ≤ 256 by decide) m)))
    exact g 8
  have p1 := pow_pos (show 1 ≤ b by omega) (j + 1)
  have p8 := pow_pos (show 1 ≤ b by omega) 8
  have hq : b ^ j ≤ 2 ^ 4000 := by
    rcases hj with h | h
    · rw [h, Int.pow_zero]
      exact pow_pos (by decide) 4000
    · omega
  have pj := pow_pos (show 1 ≤ b by omega) j
  have hp2 : p ≤ 2 ^ 4000 * 256 := by
    rw [hp, Int.pow_succ]
    exact Int.mul_le_mul hq hb2 (by omega) (Int.le_of_lt (Int.lt_of_lt_of_le (by decide) (pow_pos (show (1 : Int) ≤ 2 by decide) 4000)))
  refine wide_mul (a := 4009) (b := 65) ?_ ?_ (by decide) (by decide) (by decide)
  · have h1 : p < 2 ^ 4009 := Int.lt_of_le_of_lt hp2 (by decide)
    have h2 : ((p.natAbs : Nat) : Int) < ((2 ^ 4009 : Nat) : Int) := by
      rw [Int.natCast_pow]
      have e : ((2 : Nat) : Int) = 2 := rfl
      rw [e]
      omega
    exact Int.ofNat_lt.mp h2
  · have h1 : e < 2 ^ 65 := by
      rw [he]
      exact Int.lt_of_le_of_lt b8 (by decide)
    have h2 : ((e.natAbs : Nat) : Int) < ((2 ^ 65 : Nat) : Int) := by
      rw [Int.natCast_pow]
      have e : ((2 : Nat) : Int) = 2 := rfl
      rw [e]
      omega
    exact Int.ofNat_lt.mp h2
theorem ok_figures_of (T : Tx w K mg) : Prom P w K mg base CX0 1 "figures_of" s_figures_of ["length", "base"] spFig := by
  refine Prom.of T.d_figures_of sc_figures_of (fun vs H Q E h => ?_) (fun _ _ _ _ _ _ us hl => match us, hl with | [_, _], _ => rfl) (fun f cdv A outer s H vs Q E hr h => ?_)
  · obtain ⟨n, b, rfl, _⟩ := h
    rfl
  · obtain ⟨n, b, rfl, hb, hb2, hn, k⟩ := h
    refine ⟨_, (pss_cons (ps_par3 (i := 2) (j := 3) (l := 4) (by rfl) sc_figures_of.nd rfl rfl rfl (by decide) (by decide) (by decide) rfl rfl rfl (pa_cons pe_int (pa_cons (pv 1) (pa_cons pe_int pa_nil))) (by rfl))
      (pss_cons (ps_for PassesOwn.never (by rfl) (pi_range1 (by rfl) T.b_range (pa_cons pe_int pa_nil)) (pg_name (i := 5) sc_figures_of.nd rfl (Or.inl rfl)) (pss_one (ps_set (i := 4) sc_figures_of.nd rfl (Or.inl rfl) (pe_op op_mul (pv 4) (pv 1)))))
      (pss_cons (ps_while PassesOwn.never (pt_cmp (pc_le (pe_op op_mulW (pv 3) (pv 4)) (pv 0))) (pss_one (ps_par (i := 2) (j := 3) (by rfl) sc_figures_of.nd rfl rfl (by decide) rfl rfl (pa_cons (pe_op op_add (pv 2) pe_int) (pa_cons (pe_op op_mulW (pv 3) (pv 4)) pa_nil)) (by rfl))))
      (pss_cons (ps_while PassesOwn.never (pt_cmp (pc_le (pv 3) (pv 0))) (pss_one (ps_par (i := 2) (j := 3) (by rfl) sc_figures_of.nd rfl rfl (by decide) rfl rfl (pa_cons (pe_op op_add (pv 2) pe_int) (pa_cons (pe_op op_mul (pv 3) (pv 1)) pa_nil)) (by rfl))))
      (pss_one (ps_ret (pv 2))))))), ?_⟩
    -- count, power, eight = 1, base, 1
    refine ⟨_, rfl, _, _, _, rfl, ?_⟩
    -- for turn in range(8)
    refine ⟨8, rfl, by decide, by decide, for_range (lo := 0) (n := 8) (fun i σ H' => H' = H ∧ ∃ v, σ = [some (.int n), some (.int b), some (.int 1), some (.int b), some (.int (b ^ i)), v]) ⟨rfl, none, by rw [Int.pow_zero]; rfl⟩ ?_ ?_⟩
    · rintro i σ H' hi ⟨rfl, v, rfl⟩
      refine ⟨_, rfl, _, rfl, _, _, rfl, rfl, .inr ⟨by omega, by omega⟩, ?_⟩
      exact ⟨rfl, some (.int (0 + (i : Int))), by rw [Int.pow_succ]; rfl⟩
    · rintro σ H' ⟨rfl, v, rfl⟩
      -- while power * eight <= length
      refine ⟨fun m σ H1 => H1 = H' ∧ ∃ (j : Nat), σ = [some (.int n), some (.int b), some (.int ((j : Int) + 1)), some (.int (b ^ (j + 1))), some (.int (b ^ 8)), v] ∧ (j = 0 ∨ b ^ j ≤ n) ∧ m = (n + 1 - b ^ (j + 1)).toNat,
        ⟨_, rfl, 0, by rw [pow_one b]; rfl, .inl rfl, rfl⟩, ?_⟩
      rintro m σ H1 ⟨rfl, j, rfl, hj, hm⟩
      have p1 := pow_pos (show 1 ≤ b by omega) (j + 1)
      refine ⟨_, rfl, _, rfl, _, _, rfl, rfl, fig_mul hb hb2 hn rfl hj rfl, ?_⟩
      refine ⟨_, rfl, _, _, rfl, rfl, _, rfl, ifd (fun c => ?_) (fun c => ?_)⟩
      · refine ⟨_, fun σ' H' h => h, ?_⟩
        have e9 : b ^ (j + 1) * b ^ 8 = b ^ (j + 8 + 1) := by rw [← Int.pow_add]
        have e8 : b ^ (j + 1) < b ^ (j + 8 + 1) := Int.lt_of_lt_of_le (pow_lt hb (j + 1)) (pow_mono (show 1 ≤ b by omega) (by omega))
        refine ⟨_, rfl, _, _, rfl, rfl, _, rfl, _, rfl, _, _, rfl, rfl, fig_mul hb hb2 hn rfl hj rfl, _, _, rfl, ?_⟩
        refine ⟨_, ?_, rfl, j + 8, ?_, .inr ?_, rfl⟩
        · rw [hm]
          rw [e9] at c
          omega
        · show [some (V.int n), some (V.int b), some (V.int ((j : Int) + 1 + 8)), some (V.int (b ^ (j + 1) * b ^ 8)), some (V.int (b ^ 8)), v] = _
          rw [e9]
          have e : (j : Int) + 1 + 8 = ((j + 8 : Nat) : Int) + 1 := by omega
          rw [e]
        · rw [e9] at c
          exact Int.le_trans (pow_mono (show 1 ≤ b by omega) (by omega)) c
      · -- while power <= length
        refine ⟨fun m σ H2 => H2 = H1 ∧ ∃ (j : Nat), σ = [some (.int n), some (.int b), some (.int ((j : Int) + 1)), some (.int (b ^ (j + 1))), some (.int (b ^ 8)), v] ∧ (j = 0 ∨ b ^ j ≤ n) ∧ m = (n + 1 - b ^ (j + 1)).toNat,
          ⟨_, rfl, j, rfl, hj, rfl⟩, ?_⟩
        clear c hm p1 hj
        rintro m σ H2 ⟨rfl, j, rfl, hj, hm⟩
        have p1 := pow_pos (show 1 ≤ b by omega) (j + 1)
        refine ⟨_, rfl, _, rfl, _, _, rfl, rfl, _, rfl, ifd (fun c => ?_) (fun c => ?_)⟩
        · refine ⟨_, fun σ' H' h => h, ?_⟩
          have e8 := pow_lt hb (j + 1)
          refine ⟨_, rfl, _, _, rfl, rfl, _, rfl, _, rfl, _, _, rfl, rfl, .inr ⟨by omega, by omega⟩, _, _, rfl, ?_⟩
          refine ⟨_, ?_, rfl, j + 1, ?_, .inr c, rfl⟩
          · rw [hm]
            omega
          · show [some (V.int n), some (V.int b), some (V.int ((j : Int) + 1 + 1)), some (V.int (b ^ (j + 1) * b)), some (V.int (b ^ 8)), v] = _
            rw [← Int.pow_succ]
            have e : (j : Int) + 1 + 1 = ((j + 1 : Nat) : Int) + 1 := by omega
            rw [e]
        · exact ⟨_, rfl, k _ ⟨j, rfl, by omega, hj⟩⟩
end
section
variable {P : Program} {w : World} {K : PySem.W.Frag} {mg : Str → Option Value} {base : Heap}
def spTotal : Sp := fun vs H Q _ => ∃ n b : Int, vs = [.int n, .int b] ∧ 2 ≤ b ∧ b ≤ 256 ∧ 0 ≤ n ∧ n < 2 ^ 3900 ∧ ∀ s, IsTot b n s → s ≤ n + 4000 → Q (.int s) H
theorem ok_total_of (T : Tx w K mg) : Prom P w K mg base CX0 2 "total_of" s_total_of ["length", "base"] spTotal := by
  refine Prom.of T.d_total_of sc_total_of (fun vs H Q E h => ?_) (fun _ _ _ _ _ _ us hl => match us, hl with | [_, _], _ => rfl) (fun f cdv A outer s H vs Q E hr h => ?_)
  · obtain ⟨n, b, rfl, _⟩ := h
    rfl
  · obtain ⟨n, b, rfl, b0, b1, n0, n1, k⟩ := h
    have big : ∀ x : Int, x ≤ n + 4000 → x < 2 ^ 4000 := fun x hx => by
      have : (2 : Int) ^ 3900 + 4000 ≤ 2 ^ 4000 := by decide
      omega
    refine ⟨_, (pss_cons (ps_set (i := 2) sc_total_of.nd rfl (Or.inl rfl) (pe_callP (ok_figures_of T) (hr.mono (by decide)) (by rfl) pass0 (pa_cons (pv 0) (pa_cons (pv 1) pa_nil))))
      (pss_cons (ps_while PassesOwn.never (pt_cmp (pc_neI (pe_callP (ok_figures_of T) (hr.mono (by decide)) (by rfl) pass0 (pa_cons (pe_op op_add (pv 0) (pv 2)) (pa_cons (pv 1) pa_nil))) (pv 2))) (pss_one (ps_aug (i := 2) sc_total_of.nd rfl (.inl rfl) pe_int ip_add)))
      (pss_one (ps_ret (pe_op op_add (pv 0) (pv 2)))))), ?_⟩
    refine ⟨_, rfl, _, rfl, n, b, rfl, b0, b1, big n (by omega), fun z hz => ?_⟩
    have z0 := isF_pos hz
    have z1 := isF_bound b0 3900 n1 hz
    refine ⟨fun m σ H1 => H1 = H ∧ ((m = 1 ∧ σ = [some (.int n), some (.int b), some (.int z)]) ∨ (m = 0 ∧ σ = [some (.int n), some (.int b), some (.int (z + 1))] ∧ IsF b (n + z) (z + 1))), ⟨1, rfl, .inl ⟨rfl, rfl⟩⟩, ?_⟩
    rintro m σ H1 ⟨rfl, ⟨rfl, rfl⟩ | ⟨rfl, rfl, h1⟩⟩
    · refine ⟨_, rfl, _, rfl, _, _, rfl, rfl, _, rfl, n + z, b, rfl, b0, b1, big _ (by omega), fun g hg => ?_⟩
      refine ⟨_, rfl, _, _, rfl, rfl, _, rfl, ifn (fun c => ?_) (fun c => ?_)⟩
      · have e : g = z + 1 := (fig_grow b0 n0 hz hg).resolve_left c
        subst e
        exact ⟨_, fun _ _ h => h, _, rfl, _, _, rfl, rfl, 0, by decide, rfl, .inr ⟨rfl, rfl, hg⟩⟩
      · subst c
        exact ⟨_, rfl, _, rfl, _, _, rfl, rfl, k _ (isTot_first b0 hz hg) (by omega)⟩
    · refine ⟨_, rfl, _, rfl, _, _, rfl, rfl, _, rfl, n + (z + 1), b, rfl, b0, b1, big _ (by omega), fun g hg => ?_⟩
      have h2 := fig_next b0 n0 hz h1
      have e0 : n + (z + 1) = n + z + 1 := by omega
      rw [e0] at hg
      have e : g = z + 1 := isF_eq b0 hg h2
      refine ⟨_, rfl, _, _, rfl, rfl, _, rfl, ifn (fun c => absurd e c) (fun c => ?_)⟩
      refine ⟨_, rfl, _, rfl, _, _, rfl, rfl, ?_⟩
      show Q (.int (n + (z + 1))) _
      rw [e0]
      exact k _ (isTot_second b0 n0 hz h1) (by omega)
end
theorem log2_small {i : Int} (h0 : 0 ≤ i) (h1 : i < 10 ^ 70) : i.natAbs.log2 < 1920 := by
  have h3 : i.natAbs < 2 ^ 300 := Nat.lt_of_lt_of_le (show i.natAbs < 10 ^ 70 by omega) (by decide)
  exact Nat.lt_of_lt_of_le (PySem.Flt.log2_lt_of (by decide) h3) (by decide)
/-! ### ints shown -/
theorem shownAll_ints : ∀ xs : List Int, PyData.shownAll (xs.map PyData.int) = xs.map fun i => (toString i : Str)
  | [] => rfl
  | x :: xs => by
    show (toString x : Str) :: PyData.shownAll (xs.map PyData.int) = _
    rw [shownAll_ints xs]
    rfl
theorem sum_short : ∀ (xs : List Int), (∀ x ∈ xs, x.natAbs < 10 ^ 70) → ((xs.map fun i => (toString i : Str)).map (·.length)).sum ≤ 71 * xs.length
  | [], _ => by simp
  | x :: xs, h => by
    have h1 := sum_short xs fun y hy => h y (List.mem_cons_of_mem _ hy)
    have h2 : (toString x : Str).length ≤ 71 := by
      have := int_text_length_le10 (k := 70) (by decide) (h x (List.mem_cons_self ..))
      have e : (Str.ofString (toString x)).length = (toString x : String).length := PySem.ofString_length _
      show (Str.ofString (toString x)).length ≤ 71
      omega
    simp only [List.map_cons, List.sum_cons, List.length_cons]
    omega
def Shows (d : PyData) : Prop := d.showable = true ∧ d.hasDict = false ∧ d.depth ≤ 40 ∧ d.shown.length ≤ sizeLine
theorem ints_showable : ∀ xs : List Int, (∀ x ∈ xs, x.natAbs < 10 ^ 70) → PyData.showableAll (xs.map PyData.int) = true ∧ PyData.hasDictAll (xs.map PyData.int) = false ∧ PyData.depthAll (xs.map PyData.int) ≤ 2
  | [], _ => ⟨rfl, rfl, by decide⟩
  | x :: xs, h => by
    obtain ⟨h1, h2, h3⟩ := ints_showable xs fun y hy => h y (List.mem_cons_of_mem _ hy)
    have hx : x.natAbs.log2 < 1920 := by
      have h4 : x.natAbs < 2 ^ 300 := Nat.lt_of_lt_of_le (h x (List.mem_cons_self ..)) (by decide)
      exact Nat.lt_of_lt_of_le (PySem.Flt.log2_lt_of (by decide) h4) (by decide)
    refine ⟨?_, ?_, ?_⟩
    · show (decide (x.natAbs.log2 < 1920) && PyData.showableAll (xs.map PyData.int)) = true
      rw [h1, decide_eq_true hx] <;> rfl
    · show (false || PyData.hasDictAll (xs.map PyData.int)) = false
      rw [h2] <;> rfl
    · show max (PyData.depth (.int x)) (PyData.depthAll (xs.map PyData.int)) ≤ 2
      have : PyData.depth (.int x) ≤ 1 := by first | exact Nat.le_refl _ | exact Nat.zero_le _ | decide
      omega
theorem shows_tuple {xs : List Int} (h : ∀ x ∈ xs, x.natAbs < 10 ^ 70) (hl : xs.length ≤ 10000) : Shows (.tuple (xs.map PyData.int)) := by
  obtain ⟨h1, h2, h3⟩ := ints_showable xs h
  refine ⟨h1, h2, ?_, ?_⟩
  · show PyData.depthAll (xs.map PyData.int) + 1 ≤ 40
    omega
  · show (tupleText (PyData.shownAll (xs.map PyData.int))).length ≤ sizeLine
    have h4 := tupleText_len_le (PyData.shownAll (xs.map PyData.int))
    rw [shownAll_ints] at h4 ⊢
    have h5 := sum_short xs h
    rw [List.length_map] at h4
    rw [sizeLine_eq]
    omega
theorem shows_list {xs : List Int} (h : ∀ x ∈ xs, x.natAbs < 10 ^ 70) (hl : xs.length ≤ 10000) : Shows (.list (xs.map PyData.int)) := by
  obtain ⟨h1, h2, h3⟩ := ints_showable xs h
  refine ⟨h1, h2, ?_, ?_⟩
  · show PyData.depthAll (xs.map PyData.int) + 1 ≤ 40
    omega
  · show (listText (PyData.shownAll (xs.map PyData.int))).length ≤ sizeLine
    have h4 := listText_len_le (PyData.shownAll (xs.map PyData.int))
    rw [shownAll_ints] at h4 ⊢
    have h5 := sum_short xs h
    rw [List.length_map] at h4
    rw [sizeLine_eq]
    omega
theorem dp_ints {K : PySem.W.Frag} {H : Hp} : ∀ xs : List Int, DpAll K H (xs.map V.int) (xs.map PyData.int)
  | [] => .nil
  | x :: xs => .cons (.int x) (dp_ints xs)
/-! ### wraps -/
/-- the first number that does not do -/
def faultL : List (Int × Int) → List Int → Nat → Option Nat
  | q :: qs, n :: ns, i => if q.1 ≤ n ∧ n ≤ q.2 then faultL qs ns (i + 1) else some i
  | _, _, _ => none
def faultV (a : Wr) (ns : List Int) : V := match faultL a.rng ns 0 with
  | some i => .int (i : Nat)
  | none => if a.kind = "coded" ∧ ns.getD 1 0 < ns.getD 0 0 then .int 1 else .non
theorem faultL_drop : ∀ (qs : List (Int × Int)) (ns : List Int) (j i : Nat), qs.length = ns.length → (∀ m q n, m < i → qs[m]? = some q → ns[m]? = some n → q.1 ≤ n ∧ n ≤ q.2) → i ≤ ns.length → faultL qs ns j = faultL (qs.drop i) (ns.drop i) (j + i)
  | _, _, j, 0, _, _, _ => rfl
  | [], [], j, i + 1, _, _, h => by simp at h
  | [], _ :: _, j, i + 1, h, _, _ => by simp at h
  | _ :: _, [], j, i + 1, h, _, _ => by simp at h
  | q :: qs, n :: ns, j, i + 1, hl, hg, hi => by
    have h0 := hg 0 q n (by omega) rfl rfl
    have ih := faultL_drop qs ns (j + 1) i (by simpa using hl) (fun m q' n' hm h1 h2 => hg (m + 1) q' n' (by omega) (by simpa using h1) (by simpa using h2)) (by simpa using hi)
    show (if q.1 ≤ n ∧ n ≤ q.2 then faultL qs ns (j + 1) else some j) = _
    rw [if_pos h0, ih]
    have e : j + 1 + i = j + (i + 1) := by omega
    rw [e]
    rfl
theorem drop_at {α : Type} : ∀ {xs : List α} {i : Nat} {x : α}, xs[i]? = some x → xs.drop i = x :: xs.drop (i + 1)
  | [], i, x, h => by simp at h
  | y :: ys, 0, x, h => by
    simp at h
    rw [h]
    rfl
  | y :: ys, i + 1, x, h => drop_at (xs := ys) (i := i) (by simpa using h)
def spFault (K : PySem.W.Frag) : Sp := fun vs H Q _ => ∃ (a : Wr) (ns : List Int) (p : Addr), vs = [.str a.kind, .ref p] ∧ (SqL K H p (ns.map V.int) ∨ SqT K H p (ns.map V.int)) ∧ ns.length = a.rng.length ∧ ∀ H', Same H H' → Q (faultV a ns) H'
section
variable {P : Program} {w : World} {K : PySem.W.Frag} {mg : Str → Option Value} {base : Heap}
theorem sq_same {H H' : Hp} {p : Addr} {xs : List V} (s : Same H H') (h : SqL K H p xs ∨ SqT K H p xs) : SqL K H' p xs ∨ SqT K H' p xs := by
  rcases h with h | h
  · exact .inl (s.seq h)
  · refine .inr ?_
    rcases h with (h | ⟨o, h⟩) | h
    · exact .inl (.inl (s _ _ h))
    · exact .inl (.inr ⟨o, s _ _ h⟩)
    · exact .inr h
theorem ok_fault_in (T : Tx w K mg) : Prom P w K mg base CX0 3 "fault_in" s_fault_in ["kind", "numbers"] (spFault K) := by
  refine Prom.of T.d_fault_in sc_fault_in (fun vs H Q E h => ?_) (fun _ _ _ _ _ _ us hl => match us, hl with | [_, _], _ => rfl) (fun f cdv A outer s H vs Q E hr h => ?_)
  · obtain ⟨a, ns, p, rfl, _⟩ := h
    rfl
  · obtain ⟨a, ns, p, rfl, hS, hl, k⟩ := h
    obtain ⟨es, en, kd⟩ := T.kd
    obtain ⟨b, xs, hb, hq, hp⟩ := T.rg a
    have hlx := hp.len
    have at_ : ∀ {H' : Hp} {i : Nat} {n : Int} {Q' : VK}, Same H H' → ns[i]? = some n → Q' (.int n) H' → rIxL K (.ref p) (.int (i : Nat)) H' Q' ∨ rIxT K (.ref p) (.int (i : Nat)) H' Q' := fun {H' i n Q'} hs hn hQ => by
      have en : (ns.map V.int)[i]? = some (V.int n) := by rw [List.getElem?_map, hn]; rfl
      rcases sq_same hs hS with z | z
      · exact .inl ⟨p, _, _, _, rfl, rfl, z, atI_nat en, hQ⟩
      · exact .inr ⟨p, _, _, _, rfl, rfl, z, atI_nat en, hQ⟩
    refine ⟨_, (pss_cons (ps_for PassesOwn.never (by rfl) (pi_enumT (by rfl) T.b_enumerate (pa_cons (pe_ix ix_kdict (pe_glob (v := .ref _) (by rfl) T.k_RANGES rfl) (pv 0) (fun _ _ => rfl)) pa_nil)) (pg_tup rfl (pgs_cons (pg_name (i := 2) sc_fault_in.nd rfl (Or.inl rfl)) (pgs_cons (pg_tup rfl (pgs_cons (pg_name (i := 3) sc_fault_in.nd rfl (Or.inl rfl)) (pgs_cons (pg_name (i := 4) sc_fault_in.nd rfl (Or.inl rfl)) pgs_nil))) pgs_nil))) (pss_one (ps_if (pt_not (pt_val (pe_callP (ok_is_between T) (hr.mono (by decide)) (by rfl) pass0 (pa_cons (pe_ix ix_any (pv 1) (pv 2) (fun _ _ => rfl)) (pa_cons (pv 3) (pa_cons (pv 4) pa_nil)))))) (pss_one (ps_ret (pv 2))) pss_nil)))
      (pss_one (ps_ret (pe_ifExp (PW.pt (pw_and (pt_cmpR op_eq (pv 0) pe_str (nomark _)) (pw_and1 (pt_cmp (pc_lt (pe_ix ix_any (pv 1) pe_int (fun _ _ => rfl)) (pe_ix ix_any (pv 1) pe_int (fun _ _ => rfl))))))) pe_int pe_non)))), ?_⟩
    refine ⟨_, rfl, _, _, .ref b, rfl, rfl, ⟨es, en, _, kd.at_, kd.lit, hb, rfl⟩, b, xs, rfl, hq _, ?_⟩
    refine for_it (walk_enumT (K := K) (a := b) (xs := xs)) (fun i σ H' => Same H H' ∧ (∀ m q n, m < i → a.rng[m]? = some q → ns[m]? = some n → q.1 ≤ n ∧ n ≤ q.2) ∧ ∃ v1 v2 v3, σ = [some (.str a.kind), some (.ref p), v1, v2, v3]) ⟨Same.refl H, fun m q n h => absurd h (Nat.not_lt_zero m), none, none, none, rfl⟩ (fun _ _ H' _ _ => hq H') ?_ ?_
    · rintro i x σ H1 H2 hi ⟨hs, hg, v1, v2, v3, rfl⟩ ⟨t, x1, x2, rfl, ht, rfl, e1, e2⟩
      cases e1
      obtain ⟨c, q, rfl, hq2, hc⟩ := hp.get e2
      have hin : i < ns.length := by omega
      obtain ⟨n, hn⟩ : ∃ n, ns[i]? = some n := ⟨_, List.getElem?_eq_getElem hin⟩
      have hs2 : Same H (upd H1 t (.tup [.int (i : Nat), .ref c])) := fun y o e => by rw [upd_ne (ne_of_none (hs _ _ e) ht)]; exact hs _ _ e
      refine ⟨t, _, rfl, SqT.of upd_same, rfl, _, _, rfl, _, _, rfl, ?_⟩
      refine ⟨c, _, rfl, hc _, rfl, _, _, rfl, _, _, rfl, rfl, rfl, ?_⟩
      refine ⟨_, rfl, _, rfl, at_ hs2 hn ⟨_, rfl, _, rfl, n, q.1, q.2, rfl, _, rfl, ifn (fun c => ?_) (fun c => ?_)⟩⟩
      · have e : faultV a ns = .int (i : Nat) := by
          unfold faultV
          rw [faultL_drop a.rng ns 0 i hl.symm hg (by omega)]
          have d1 : a.rng.drop i = q :: a.rng.drop (i + 1) := drop_at hq2
          have d2 : ns.drop i = n :: ns.drop (i + 1) := drop_at hn
          rw [d1, d2]
          show (match (if q.1 ≤ n ∧ n ≤ q.2 then _ else some (0 + i)) with
            | some i => V.int (i : Nat)
            | none => _) = _
          rw [if_neg c, Nat.zero_add]
        have k2 := k _ hs2
        rw [e] at k2
        exact ⟨_, rfl, k2⟩
      · refine ⟨hs2, fun m q' n' hm h1 h2 => ?_, _, _, _, rfl⟩
        by_cases z : m = i
        · subst z
          rw [hq2] at h1
          rw [hn] at h2
          cases h1
          cases h2
          exact c
        · exact hg m q' n' (by omega) h1 h2
    · rintro σ H' ⟨hs, hg, v1, v2, v3, rfl⟩
      have e0 : faultL a.rng ns 0 = none := by
        rw [faultL_drop a.rng ns 0 ns.length hl.symm (by rw [hlx, ← hl] at hg; exact hg) (Nat.le_refl _)]
        rw [List.drop_length]
        cases a.rng.drop ns.length <;> rfl
      have k2 := k _ hs
      unfold faultV at k2
      rw [e0] at k2
      refine ⟨_, rfl, rfl, _, rfl, ifd (fun c => ?_) (fun c => ?_)⟩
      · have ec : a.kind = "coded" := by
          have c : V.str a.kind = V.str "coded" := c
          injection c
        have l2 : a.rng.length = 2 := by
          cases a with
          | coded _ _ => rfl
          | pieces _ _ => rfl
          | cut _ _ => rfl
          | plus _ => exact absurd (show ("plus" : Str) = "coded" from ec) (by decide)
          | told _ => exact absurd (show ("told" : Str) = "coded" from ec) (by decide)
          | whole _ => exact absurd (show ("whole" : Str) = "coded" from ec) (by decide)
          | filled _ => exact absurd (show ("filled" : Str) = "coded" from ec) (by decide)
        rw [l2] at hl
        obtain ⟨n0, n1, rfl⟩ : ∃ n0 n1, ns = [n0, n1] := by
          match ns, hl with
          | [n0, n1], _ => exact ⟨n0, n1, rfl⟩
        refine ⟨_, rfl, at_ (i := 1) (n := n1) hs rfl ⟨_, rfl, at_ (i := 0) (n := n0) hs rfl ⟨_, _, rfl, rfl, _, rfl, ifd (fun c2 => ?_) (fun c2 => ?_)⟩⟩⟩
        · rw [if_pos ⟨ec, c2⟩] at k2
          exact k2
        · rw [if_neg (fun z => c2 z.2)] at k2
          exact k2
      · rw [if_neg (fun z => c (congrArg V.str z.1))] at k2
        exact k2
end
/-- the text of a wrap -/
def Wr.text (a : Wr) : Str := Txt.join " " (a.kind :: a.nums.map fun i => (toString i : Str))
def wrapFs (a : Wr) (p : Addr) : List (Str × V) := [("kind", .str a.kind), ("numbers", .ref p), ("words", .str a.text)]
/-- a wrap stands there -/
def WrapAt (K : PySem.W.Frag) (H : Hp) (q : Addr) (a : Wr) : Prop := ∃ dx p, H q = some (.ins (He.ga K "Wrap") dx (wrapFs a p)) ∧ H p = some (.tup (a.nums.map V.int))
theorem WrapAt.same {K : PySem.W.Frag} {H H' : Hp} {q : Addr} {a : Wr} (h : WrapAt K H q a) (s : Same H H') : WrapAt K H' q a := by
  obtain ⟨dx, p, h1, h2⟩ := h
  exact ⟨dx, p, s _ _ h1, s _ _ h2⟩
def spInit (K : PySem.W.Frag) : Sp := fun vs H Q _ => ∃ (a : Wr) (x p dx : Addr), vs = [.ref x, .str a.kind, .ref p] ∧ a.ok ∧ H x = some (.ins (He.ga K "Wrap") dx []) ∧ H p = some (.tup (a.nums.map V.int)) ∧
  ∀ H', Kp x H H' → H' x = some (.ins (He.ga K "Wrap") dx (wrapFs a p)) → Q .non H'
def spWrap (K : PySem.W.Frag) : Sp := fun vs H Q _ => ∃ a : Wr, vs = .str a.kind :: a.nums.map V.int ∧ a.ok ∧ ∀ q H', H q = none → Same H H' → WrapAt K H' q a → Q (.ref q) H'
theorem kind_len (a : Wr) : a.kind.length ≤ 6 := by
  cases a with
  | plus _ => exact (show ("plus" : Str).length ≤ 6 by decide)
  | told _ => exact (show ("told" : Str).length ≤ 6 by decide)
  | whole _ => exact (show ("whole" : Str).length ≤ 6 by decide)
  | pieces _ _ => exact (show ("pieces" : Str).length ≤ 6 by decide)
  | cut _ _ => exact (show ("cut" : Str).length ≤ 6 by decide)
  | coded _ _ => exact (show ("coded" : Str).length ≤ 6 by decide)
  | filled _ => exact (show ("filled" : Str).length ≤ 6 by decide)
theorem faultL_one {q : Int × Int} {n : Int} (h : q.1 ≤ n ∧ n ≤ q.2) : faultL [q] [n] 0 = none := by
  show (if q.1 ≤ n ∧ n ≤ q.2 then none else some 0) = none
  rw [if_pos h]
theorem faultL_two {q r : Int × Int} {n m : Int} (h : q.1 ≤ n ∧ n ≤ q.2) (h2 : r.1 ≤ m ∧ m ≤ r.2) : faultL [q, r] [n, m] 0 = none := by
  show (if q.1 ≤ n ∧ n ≤ q.2 then (if r.1 ≤ m ∧ m ≤ r.2 then none else some 1) else some 0) = none
  rw [if_pos h, if_pos h2]
theorem fault_ok {a : Wr} (h : a.ok) : faultV a a.nums = .non := by
  unfold faultV
  cases a with
  | plus c => rw [show faultL (Wr.plus c).rng (Wr.plus c).nums 0 = none from faultL_one h]; rfl
  | told c => rw [show faultL (Wr.told c).rng (Wr.told c).nums 0 = none from faultL_one h]; rfl
  | whole c => rw [show faultL (Wr.whole c).rng (Wr.whole c).nums 0 = none from faultL_one h]; rfl
  | filled c => rw [show faultL (Wr.filled c).rng (Wr.filled c).nums 0 = none from faultL_one h]; rfl
  | pieces m c => rw [show faultL (Wr.pieces m c).rng (Wr.pieces m c).nums 0 = none from faultL_two ⟨h.1, h.2.1⟩ h.2.2]; rfl
  | cut m c => rw [show faultL (Wr.cut m c).rng (Wr.cut m c).nums 0 = none from faultL_two ⟨h.1, h.2.1⟩ h.2.2]; rfl
  | coded m c =>
    simp only [Wr.ok] at h
    rw [show faultL (Wr.coded m c).rng (Wr.coded m c).nums 0 = none from faultL_two ⟨h.1, h.2.1⟩ ⟨show (1 : Int) ≤ c by omega, h.2.2.2⟩]
    exact if_neg (fun z => absurd (show c < m from z.2) (by omega))
section
variable {P : Program} {w : World} {K : PySem.W.Frag} {mg : Str → Option Value} {base : Heap}
theorem ok_Wrap (T : Tx w K mg) : PromC P w K mg base CX0 4 "Wrap" (spWrap K) := by
  refine PromC.star (sp0 := spInit K) T.mk_Wrap T.k_Wrap T.dm_Wrap___init__ sc_Wrap___init__ (fun _ _ _ _ _ _ _ _ => rfl) (fun _ _ _ _ _ _ _ _ _ _ => rfl) (fun f cdv A outer s H vs Q E hr h => ?_) (fun vs H Q E h => ?_)
  · obtain ⟨a, x, p, dx, rfl, ha, hx, hp, k⟩ := h
    obtain ⟨es, en, kd⟩ := T.kd
    obtain ⟨b, xs, hb, hq, hps⟩ := T.rg a
    refine ⟨_, (pss_cons (ps_if (PW.pt (pw_or (pt_not (pt_val (pe_callB call_isi (by rfl) T.b_isinstance (by decide +kernel) (pa_cons (pv 1) (pa_cons (pe_bltn (v := .ty "str") (by rfl) T.b_str (by decide +kernel) rfl) pa_nil))))) (pw_or1 (pt_cmpR (op_notIn_kd kd) (pv 1) (pe_glob (v := .ref _) (by rfl) T.k_RANGES rfl) (by rfl))))) (pss_one ps_never) pss_nil)
      (pss_cons (ps_if (pt_cmp (pc_neI (pe_callB call_len_seq (by rfl) T.b_len (by decide +kernel) (pa_cons (pv 2) pa_nil)) (pe_callB call_len_seq (by rfl) T.b_len (by decide +kernel) (pa_cons (pe_ix ix_kdict (pe_glob (v := .ref _) (by rfl) T.k_RANGES rfl) (pv 1) (fun _ _ => rfl)) pa_nil)))) (pss_one ps_never) pss_nil)
      (pss_cons (ps_set (i := 3) sc_Wrap___init__.nd rfl (Or.inl rfl) (pe_callP (ok_fault_in T) (hr.mono (by decide)) (by rfl) pass0 (pa_cons (pv 1) (pa_cons (pv 2) pa_nil))))
      (pss_cons (ps_if (pt_cmpR op_notN (pv 3) pe_non (nomark _)) (pss_one ps_never) pss_nil)
      (pss_cons (ps_fld (pv 0) (pv 1) rfl)
      (pss_cons (ps_fld (pv 0) (pv 2) rfl)
      (pss_one (ps_fld (pv 0) (pe_join pe_str (pe_lst (pa_cons (pv 1) (StX.pa_star (pe_lc (own := [("number", 4)]) (g := (gName 4)) (tt := tYes) (by rfl) sc_Wrap___init__.nd (pi_tup (pv 2)) (blkOk_by (own := [("number", 4)]) (N := ["self", "kind", "numbers", "fault", "number"]) (sc := defScope s_Wrap___init__) (by decide +kernel)) (fun _ _ _ _ _ => (pg_name (i := 4) sc_Wrap___init__.nd rfl (Or.inl rfl))) (fun _ _ _ _ _ => pts_nil) (fun _ _ _ _ _ => (pe_joined1 (pe_fmt (pv 4))))) pa_nil)))) rfl)))))))), ?_⟩
    refine ⟨_, rfl, _, _, _, _, true, rfl, .ty _, .base (.str _), kit_ty (by decide +kernel), true, rfl, iteF ?_⟩
    refine ⟨_, rfl, _, _, rfl, rfl, hb, _, rfl, iteF ?_⟩
    refine ⟨_, rfl, p, _, rfl, .inr (SqT.of hp), _, rfl, _, _, .ref b, rfl, rfl, ⟨es, en, _, kd.at_, kd.lit, hb, rfl⟩, b, xs, rfl, .inr (hq _), _, _, rfl, rfl, _, rfl, ifn (fun c => ?_) (fun _ => ?_)⟩
    · refine absurd ?_ c
      rw [List.length_map, hps.len, nums_len]
      first | done | rfl
    refine ⟨_, rfl, _, rfl, a, a.nums, p, rfl, .inr (SqT.of hp), nums_len, fun H1 s1 => ?_⟩
    rw [fault_ok ha]
    refine ⟨_, rfl, rfl, _, rfl, iteF ?_⟩
    refine ⟨_, rfl, _, rfl, x, _, dx, _, rfl, s1 _ _ hx, T.cl_Wrap, T.na_Wrap_kind, by decide, ?_⟩
    refine ⟨_, rfl, _, rfl, x, _, dx, _, rfl, upd_same, T.cl_Wrap, T.na_Wrap_numbers, (show (1 : Nat) < 1000 by decide), ?_⟩
    obtain ⟨H3, e3, hx3, kp3⟩ : ∃ H3, upd (upd H1 x (.ins (He.ga K "Wrap") dx (putF "kind" (.str a.kind) []))) x (.ins (He.ga K "Wrap") dx (putF "numbers" (.ref p) (putF "kind" (.str a.kind) []))) = H3 ∧ H3 x = some (.ins (He.ga K "Wrap") dx [("kind", .str a.kind), ("numbers", .ref p)]) ∧ Kp x H H3 :=
      ⟨_, rfl, upd_same, Kp.set (Kp.set fun b o n e => s1 _ _ e)⟩
    rw [e3]
    have npx : p ≠ x := fun z => by
      rw [z, hx] at hp
      cases hp
    have hp3 : H3 p = some (.tup (a.nums.map V.int)) := kp3 _ _ npx hp
    refine ⟨⟨_, rfl⟩, _, rfl, _, rfl, p, rfl, ⟨_, SqT.of hp3⟩, fun D hD => ?_⟩
    refine lc_tup (K := K) (a := p) (xs := a.nums.map V.int) (Pv := fun i H' => Same H3 H' ∧ H' D = some (.lst ((a.nums.take i).map fun z => V.str (toString z)))) ⟨fun z o e => by rw [upd_ne (ne_of_none e hD)]; exact e, upd_same⟩ (fun i H' _ h => SqT.of (h.1 _ _ hp3)) ?_ ?_
    · rintro i y H' hi ⟨hs, hl⟩
      obtain ⟨n, hn, rfl⟩ : ∃ n, a.nums[i]? = some n ∧ y = V.int n := by
        rw [List.getElem?_map] at hi
        cases e : a.nums[i]? with
        | none =>
          rw [e] at hi
          cases hi
        | some n =>
          rw [e] at hi
          exact ⟨n, rfl, (Option.some.inj hi).symm⟩
      have hb := nums_small ha n (List.mem_of_getElem? hn)
      have hlen : a.nums.length ≤ 2 := by cases a <;> simp [Wr.nums]
      have hil : i < a.nums.length := by
        rcases List.getElem?_eq_some_iff.mp hn with ⟨z, _⟩
        exact z
      refine ⟨rfl, _, rfl, .inr ⟨n, rfl, log2_small hb.1 (by omega), _, hl, ?_, fun z o e => ?_, ?_⟩⟩
      · rw [List.length_map, List.length_take, sizeLine_eq]
        omega
      · rw [upd_ne (ne_of_none e hD)]
        exact hs _ _ e
      · rw [upd_same, List.take_succ, hn, List.map_append]
        rfl
    · rintro H' ⟨hs, hl⟩
      rw [List.length_map, List.take_length] at hl
      refine ⟨D, _, rfl, .inr (SqL.of hl), ?_, fun l hl2 => ?_⟩
      · have hlen : a.nums.length ≤ 2 := by cases a <;> simp [Wr.nums]
        simp
        rw [sizeLine_eq]
        omega
      have el : V.str a.kind :: (a.nums.map (fun z => V.str (toString z)) ++ []) = (a.kind :: a.nums.map fun z => (toString z : Str)).map V.str := by simp
      refine ⟨_, l, a.kind :: a.nums.map (fun z => (toString z : Str)), rfl, rfl, .inl (SqL.of (by rw [← el]; exact upd_same)), ?_, ?_⟩
      · have h1 := sum_short a.nums (fun z hz => by have := nums_small ha z hz; omega)
        have hlen : a.nums.length ≤ 2 := by cases a <;> simp [Wr.nums]
        have hk : a.kind.length ≤ 6 := kind_len a
        simp only [List.map_cons, List.sum_cons, List.length_cons, List.length_map]
        have h2 : (" " : Str).length = 1 := by decide
        rw [h2]
        omega
      · have hx5 : (upd H' l (.lst (V.str a.kind :: (a.nums.map (fun z => V.str (toString z)) ++ [])))) x = some (.ins (He.ga K "Wrap") dx [("kind", .str a.kind), ("numbers", .ref p)]) := by rw [upd_ne (ne_of_none (hs _ _ hx3) hl2)]; exact hs _ _ hx3
        refine ⟨_, rfl, x, _, dx, _, rfl, hx5, T.cl_Wrap, T.na_Wrap_words, (show (2 : Nat) < 1000 by decide), ?_⟩
        refine k _ (fun z o n e => ?_) upd_same
        have ez := hs _ _ (kp3 z o n e)
        rw [upd_ne n, upd_ne (ne_of_none ez hl2)]
        exact ez
  · obtain ⟨a, rfl, ha, k⟩ := h
    refine ⟨_, _, rfl, ?_, fun x dx p hx hdx nd np npd hp => ?_⟩
    · rw [List.length_map, sizeLine_eq]
      have hlen : a.nums.length ≤ 2 := by cases a <;> simp [Wr.nums]
      omega
    refine ⟨a, x, p, dx, rfl, ha, by rw [upd_ne (Ne.symm np)]; exact upd_same, upd_same, fun H' kp hx' => ⟨rfl, ?_⟩⟩
    refine k x H' hx (fun z o e => ?_) ⟨dx, p, hx', kp _ _ np upd_same⟩
    have n1 : z ≠ x := ne_of_none e hx
    refine kp _ _ n1 ?_
    rw [upd_ne (ne_of_none e hp), upd_ne n1, upd_ne (ne_of_none e hdx)]
    exact e
end
/-! ### sizes by wraps -/
def spBegun : Sp := fun vs H Q _ => ∃ n m : Int, vs = [.int n, .int m] ∧ 1 ≤ m ∧ m ≤ 1000 ∧ Q (.int (beg n m)) H
def spPieces : Sp := fun vs H Q _ => ∃ n m c b : Int, vs = [.int n, .int m, .int c, .int b] ∧ 0 ≤ n ∧ 1 ≤ m ∧ m ≤ 60 ∧ 0 ≤ c ∧ c ≤ 60 ∧ 2 ≤ b ∧ b ≤ 256 ∧ Q (.int ((Wr.pieces m c).gr b n)) H
def spGrown (K : PySem.W.Frag) : Sp := fun vs H Q _ => ∃ (a : Wr) (q : Addr) (n b : Int), vs = [.ref q, .int n, .int b] ∧ WrapAt K H q a ∧ a.ok ∧ 2 ≤ b ∧ b ≤ 256 ∧ 0 ≤ n ∧ n < 2 ^ 3000 ∧ Q (.int (a.gr b n)) H
def spSize (K : PySem.W.Frag) : Sp := fun vs H Q _ => ∃ (a : Wr) (q : Addr) (n b : Int), vs = [.ref q, .int n, .int b] ∧ WrapAt K H q a ∧ a.ok ∧ 2 ≤ b ∧ b ≤ 256 ∧ 0 ≤ n ∧ n ≤ 10 ^ 60 - 1 ∧ Q (.int (a.gr b n)) H
theorem ifs_neg {x y : Str} {A B : Prop} (h : x ≠ y) (hB : B) : if decide (V.str x = V.str y) = true then A else B := by
  rw [decide_eq_false (fun z => h (by injection z)), if_neg Bool.false_ne_true]
  exact hB
theorem nums_first {a : Wr} : ∃ m, (a.nums.map V.int)[0]? = some (.int m) ∧ ∃ l, atI (a.nums.map V.int) (-1) = some (.int l) := by
  cases a <;> exact ⟨_, rfl, _, rfl⟩
section
variable {P : Program} {w : World} {K : PySem.W.Frag} {mg : Str → Option Value} {base : Heap}
theorem ok_begun (T : Tx w K mg) : Prom P w K mg base CX0 1 "begun" s_begun ["length", "whole"] spBegun := by
  refine Prom.of T.d_begun sc_begun (fun vs H Q E h => ?_) (fun _ _ _ _ _ _ us hl => match us, hl with | [_, _], _ => rfl) (fun f cdv A outer s H vs Q E hr h => ?_)
  · obtain ⟨n, m, rfl, _⟩ := h
    rfl
  · obtain ⟨n, m, rfl, h0, h1, k⟩ := h
    refine ⟨_, (pss_one (ps_ret (pe_op op_fdiv (pe_op op_sub (pe_op op_add (pv 0) (pv 1)) pe_int) (pv 1)))), ?_⟩
    exact ⟨_, rfl, _, rfl, _, _, rfl, rfl, _, _, rfl, rfl, _, rfl, _, _, rfl, rfl, ⟨by omega, by omega⟩, k⟩
theorem ok_in_pieces (T : Tx w K mg) : Prom P w K mg base CX0 2 "in_pieces" s_in_pieces ["length", "most", "constant", "base"] spPieces := by
  refine Prom.of T.d_in_pieces sc_in_pieces (fun vs H Q E h => ?_) (fun _ _ _ _ _ _ us hl => match us, hl with | [_, _, _, _], _ => rfl) (fun f cdv A outer s H vs Q E hr h => ?_)
  · obtain ⟨n, m, c, b, rfl, _⟩ := h
    rfl
  · obtain ⟨n, m, c, b, rfl, n0, m0, m1, c0, c1, b0, b1, k⟩ := h
    have f1 := fig_small (b := b) (m := m) b0 m1
    have f2 := figF_pos (b := b) (n := m) b0
    have r0 := Int.emod_nonneg n (show m ≠ 0 by omega)
    have r1 := Int.emod_lt_of_pos n (show 0 < m by omega)
    have big : ∀ x : Int, x ≤ 60 → x < 2 ^ 4000 := fun x hx => Int.lt_of_le_of_lt hx (by decide)
    refine ⟨_, (pss_cons (ps_set (i := 4) sc_in_pieces.nd rfl (Or.inl rfl) (pe_op op_mul (pe_op op_fdiv (pv 0) (pv 1)) (pe_op op_add (pe_op op_add (pv 1) (pv 2)) (pe_callP (ok_figures_of T) (hr.mono (by decide)) (by rfl) pass0 (pa_cons (pv 1) (pa_cons (pv 3) pa_nil))))))
      (pss_cons (ps_set (i := 5) sc_in_pieces.nd rfl (Or.inl rfl) (pe_op op_mod (pe_callTy call_int1 (by rfl) T.b_int (by decide +kernel) (pa_cons (pv 0) pa_nil)) (pv 1)))
      (pss_cons (ps_if (pt_cmp (pc_gt (pv 5) pe_int)) (pss_one (ps_set (i := 4) sc_in_pieces.nd rfl (Or.inl rfl) (pe_op op_add (pe_op op_add (pe_op op_add (pv 4) (pv 5)) (pv 2)) (pe_callP (ok_figures_of T) (hr.mono (by decide)) (by rfl) pass0 (pa_cons (pv 5) (pa_cons (pv 3) pa_nil)))))) pss_nil)
      (pss_one (ps_ret (pe_op op_add (pe_op op_add (pv 4) (pv 2)) pe_int)))))), ?_⟩
    refine ⟨_, rfl, _, rfl, _, _, rfl, rfl, ⟨by omega, by omega⟩, _, rfl, _, rfl, _, _, rfl, rfl, _, rfl, _, rfl, m, b, rfl, b0, b1, big m m1, fun g hg => ?_⟩
    have eg := figF_eq b0 hg
    subst eg
    refine ⟨_, _, rfl, rfl, _, _, rfl, rfl, .inr ⟨by omega, by omega⟩, ?_⟩
    refine ⟨_, rfl, .inl ⟨_, rfl, _, rfl, _, _, rfl, rfl, (show 0 < m by omega), ?_⟩⟩
    simp only [Wr.gr] at k
    refine ⟨_, rfl, _, _, rfl, rfl, _, rfl, ifd (fun h1 => ?_) (fun h1 => ?_)⟩
    · have h1 : 0 < n % m := h1
      rw [if_pos h1] at k
      refine ⟨_, rfl, _, rfl, _, _, rfl, rfl, _, rfl, _, _, rfl, rfl, _, rfl, _, rfl, n % m, b, rfl, b0, b1, big _ (by omega), fun g hg => ?_⟩
      have eg := figF_eq b0 hg
      subst eg
      refine ⟨_, _, rfl, rfl, ?_⟩
      refine ⟨_, rfl, _, rfl, _, _, rfl, rfl, _, _, rfl, rfl, ?_⟩
      have e : n / m * (m + c + figF b m) + n % m + c + figF b (n % m) + c + 1 = n / m * (m + c + figF b m) + (n % m + c + figF b (n % m)) + c + 1 := by omega
      rw [← e] at k
      exact k
    · have h1 : ¬ 0 < n % m := h1
      rw [if_neg h1] at k
      refine ⟨_, rfl, _, rfl, _, _, rfl, rfl, _, _, rfl, rfl, ?_⟩
      have e : n / m * (m + c + figF b m) + 0 + c + 1 = n / m * (m + c + figF b m) + c + 1 := by omega
      rw [e] at k
      exact k
theorem ok_Wrap_grown (T : Tx w K mg) : PromM P w K mg base CX0 3 "Wrap" "grown" ["self", "length", "base"] (spGrown K) := by
  refine PromM.of T.cl_Wrap T.me_Wrap_grown T.dm_Wrap_grown sc_Wrap_grown (fun vs H Q E h => ?_) (fun _ _ _ _ _ _ us hl => match us, hl with | [_, _, _], _ => rfl) (fun f cdv A outer s H vs Q E hr h => ?_)
  · obtain ⟨a, q, n, b, rfl, _⟩ := h
    rfl
  · obtain ⟨a, q, n, b, rfl, ⟨dx, p, hq, hp⟩, ha, b0, b1, n0, n1, k⟩ := h
    obtain ⟨x1, hm, x2, hl⟩ := nums_first (a := a)
    refine ⟨_, (pss_cons (ps_par (i := 3) (j := 4) (by rfl) sc_Wrap_grown.nd rfl rfl (by decide) rfl rfl (pa_cons (pe_ix ix_tup (pe_fld (pv 0) rfl) pe_int (fun _ _ => rfl)) (pa_cons (pe_ix ix_tup (pe_fld (pv 0) rfl) (pe_un un_neg pe_int) (fun _ _ => rfl)) pa_nil)) (by rfl))
      (pss_cons (ps_if (pt_cmpR op_eq (pe_fld (pv 0) rfl) pe_str (nomark _)) (pss_one (ps_ret (pe_op op_add (pv 1) (pv 3)))) pss_nil)
      (pss_cons (ps_if (pt_cmpR op_eq (pe_fld (pv 0) rfl) pe_str (nomark _)) (pss_one (ps_ret (pe_op op_add (pe_op op_add (pv 1) (pv 3)) (pe_callP (ok_figures_of T) (hr.mono (by decide)) (by rfl) pass0 (pa_cons (pv 1) (pa_cons (pv 2) pa_nil)))))) pss_nil)
      (pss_cons (ps_if (pt_cmpR op_eq (pe_fld (pv 0) rfl) pe_str (nomark _)) (pss_one (ps_ret (pe_callP (ok_total_of T) (hr.mono (by decide)) (by rfl) pass0 (pa_cons (pe_op op_add (pv 1) (pv 3)) (pa_cons (pv 2) pa_nil))))) pss_nil)
      (pss_cons (ps_if (pt_cmpR op_eq (pe_fld (pv 0) rfl) pe_str (nomark _)) (pss_one (ps_ret (pe_op op_mul (pe_callP (ok_begun T) (hr.mono (by decide)) (by rfl) pass0 (pa_cons (pv 1) (pa_cons (pv 3) pa_nil))) (pv 4)))) pss_nil)
      (pss_cons (ps_if (pt_cmpR op_eq (pe_fld (pv 0) rfl) pe_str (nomark _)) (pss_one (ps_ret (pe_op op_mul (pe_callP (ok_begun T) (hr.mono (by decide)) (by rfl) pass0 (pa_cons (pv 1) (pa_cons (pv 3) pa_nil))) (pv 3)))) pss_nil)
      (pss_cons (ps_if (pt_cmpR op_eq (pe_fld (pv 0) rfl) pe_str (nomark _)) (pss_one (ps_ret (pe_op op_add (pv 1) (pe_op op_mul (pe_callP (ok_begun T) (hr.mono (by decide)) (by rfl) pass0 (pa_cons (pv 1) (pa_cons (pv 3) pa_nil))) (pv 4))))) pss_nil)
      (pss_one (ps_ret (pe_callP (ok_in_pieces T) (hr.mono (by decide)) (by rfl) pass0 (pa_cons (pv 1) (pa_cons (pv 3) (pa_cons (pv 4) (pa_cons (pv 2) pa_nil)))))))))))))), ?_⟩
    refine ⟨_, rfl, q, _, dx, _, _, rfl, hq, T.cl_Wrap, T.na_Wrap_numbers, rfl, p, _, _, _, rfl, rfl, SqT.of hp, atI_nat (j := 0) hm, ?_⟩
    have big : ∀ x : Int, x ≤ n → x < 2 ^ 4000 := fun x hx => Int.lt_of_lt_of_le (show x < 2 ^ 3000 by omega) (by decide)
    refine ⟨_, rfl, q, _, dx, _, _, rfl, hq, T.cl_Wrap, T.na_Wrap_numbers, rfl, _, rfl, p, _, _, _, rfl, rfl, SqT.of hp, hl, _, _, rfl, ?_⟩
    cases a with
    | plus c =>
      have e1 : c = x1 := by injection hm with z; injection z
      have e2 : c = x2 := by injection hl with z; injection z
      subst e1 e2
      simp only [Wr.ok] at ha
      refine ⟨_, rfl, q, _, dx, _, _, rfl, hq, T.cl_Wrap, T.na_Wrap_kind, rfl, rfl, _, rfl, ifd_pos rfl ?_⟩
      exact ⟨_, rfl, _, rfl, _, _, rfl, rfl, k⟩
    | told c =>
      have e1 : c = x1 := by injection hm with z; injection z
      have e2 : c = x2 := by injection hl with z; injection z
      subst e1 e2
      simp only [Wr.ok] at ha
      refine ⟨_, rfl, q, _, dx, _, _, rfl, hq, T.cl_Wrap, T.na_Wrap_kind, rfl, rfl, _, rfl, ifs_neg (show ("told" : Str) ≠ "plus" by decide) ?_⟩
      refine ⟨_, rfl, q, _, dx, _, _, rfl, hq, T.cl_Wrap, T.na_Wrap_kind, rfl, rfl, _, rfl, ifd_pos rfl ?_⟩
      refine ⟨_, rfl, _, rfl, _, _, rfl, rfl, _, rfl, _, rfl, n, b, rfl, b0, b1, big n (by omega), fun g hg => ?_⟩
      have eg := figF_eq b0 hg
      subst eg
      exact ⟨_, _, rfl, rfl, k⟩
    | whole c =>
      have e1 : c = x1 := by injection hm with z; injection z
      have e2 : c = x2 := by injection hl with z; injection z
      subst e1 e2
      simp only [Wr.ok] at ha
      refine ⟨_, rfl, q, _, dx, _, _, rfl, hq, T.cl_Wrap, T.na_Wrap_kind, rfl, rfl, _, rfl, ifs_neg (show ("whole" : Str) ≠ "plus" by decide) ?_⟩
      refine ⟨_, rfl, q, _, dx, _, _, rfl, hq, T.cl_Wrap, T.na_Wrap_kind, rfl, rfl, _, rfl, ifs_neg (show ("whole" : Str) ≠ "told" by decide) ?_⟩
      refine ⟨_, rfl, q, _, dx, _, _, rfl, hq, T.cl_Wrap, T.na_Wrap_kind, rfl, rfl, _, rfl, ifd_pos rfl ?_⟩
      refine ⟨_, rfl, _, rfl, _, _, rfl, rfl, _, rfl, n + c, b, rfl, b0, b1, by omega, Int.lt_of_lt_of_le (show n + c < 2 ^ 3000 + 1001 by omega) (by decide), fun s hs _ => ?_⟩
      have eg := totF_eq b0 (show 0 ≤ n + c by omega) hs
      subst eg
      exact k
    | pieces m c =>
      have e1 : m = x1 := by injection hm with z; injection z
      have e2 : c = x2 := by injection hl with z; injection z
      subst e1 e2
      simp only [Wr.ok] at ha
      refine ⟨_, rfl, q, _, dx, _, _, rfl, hq, T.cl_Wrap, T.na_Wrap_kind, rfl, rfl, _, rfl, ifs_neg (show ("pieces" : Str) ≠ "plus" by decide) ?_⟩
      refine ⟨_, rfl, q, _, dx, _, _, rfl, hq, T.cl_Wrap, T.na_Wrap_kind, rfl, rfl, _, rfl, ifs_neg (show ("pieces" : Str) ≠ "told" by decide) ?_⟩
      refine ⟨_, rfl, q, _, dx, _, _, rfl, hq, T.cl_Wrap, T.na_Wrap_kind, rfl, rfl, _, rfl, ifs_neg (show ("pieces" : Str) ≠ "whole" by decide) ?_⟩
      refine ⟨_, rfl, q, _, dx, _, _, rfl, hq, T.cl_Wrap, T.na_Wrap_kind, rfl, rfl, _, rfl, ifs_neg (show ("pieces" : Str) ≠ "coded" by decide) ?_⟩
      refine ⟨_, rfl, q, _, dx, _, _, rfl, hq, T.cl_Wrap, T.na_Wrap_kind, rfl, rfl, _, rfl, ifs_neg (show ("pieces" : Str) ≠ "filled" by decide) ?_⟩
      refine ⟨_, rfl, q, _, dx, _, _, rfl, hq, T.cl_Wrap, T.na_Wrap_kind, rfl, rfl, _, rfl, ifs_neg (show ("pieces" : Str) ≠ "cut" by decide) ?_⟩
      exact ⟨_, rfl, _, rfl, _, rfl, _, rfl, n, m, c, b, rfl, n0, by omega, by omega, by omega, by omega, b0, b1, k⟩
    | cut m c =>
      have e1 : m = x1 := by injection hm with z; injection z
      have e2 : c = x2 := by injection hl with z; injection z
      subst e1 e2
      simp only [Wr.ok] at ha
      refine ⟨_, rfl, q, _, dx, _, _, rfl, hq, T.cl_Wrap, T.na_Wrap_kind, rfl, rfl, _, rfl, ifs_neg (show ("cut" : Str) ≠ "plus" by decide) ?_⟩
      refine ⟨_, rfl, q, _, dx, _, _, rfl, hq, T.cl_Wrap, T.na_Wrap_kind, rfl, rfl, _, rfl, ifs_neg (show ("cut" : Str) ≠ "told" by decide) ?_⟩
      refine ⟨_, rfl, q, _, dx, _, _, rfl, hq, T.cl_Wrap, T.na_Wrap_kind, rfl, rfl, _, rfl, ifs_neg (show ("cut" : Str) ≠ "whole" by decide) ?_⟩
      refine ⟨_, rfl, q, _, dx, _, _, rfl, hq, T.cl_Wrap, T.na_Wrap_kind, rfl, rfl, _, rfl, ifs_neg (show ("cut" : Str) ≠ "coded" by decide) ?_⟩
      refine ⟨_, rfl, q, _, dx, _, _, rfl, hq, T.cl_Wrap, T.na_Wrap_kind, rfl, rfl, _, rfl, ifs_neg (show ("cut" : Str) ≠ "filled" by decide) ?_⟩
      refine ⟨_, rfl, q, _, dx, _, _, rfl, hq, T.cl_Wrap, T.na_Wrap_kind, rfl, rfl, _, rfl, ifd_pos rfl ?_⟩
      exact ⟨_, rfl, _, rfl, _, rfl, n, m, rfl, by omega, by omega, _, rfl, _, _, rfl, rfl, .inr ⟨by omega, by omega⟩, _, _, rfl, rfl, k⟩
    | coded m c =>
      have e1 : m = x1 := by injection hm with z; injection z
      have e2 : c = x2 := by injection hl with z; injection z
      subst e1 e2
      simp only [Wr.ok] at ha
      refine ⟨_, rfl, q, _, dx, _, _, rfl, hq, T.cl_Wrap, T.na_Wrap_kind, rfl, rfl, _, rfl, ifs_neg (show ("coded" : Str) ≠ "plus" by decide) ?_⟩
      refine ⟨_, rfl, q, _, dx, _, _, rfl, hq, T.cl_Wrap, T.na_Wrap_kind, rfl, rfl, _, rfl, ifs_neg (show ("coded" : Str) ≠ "told" by decide) ?_⟩
      refine ⟨_, rfl, q, _, dx, _, _, rfl, hq, T.cl_Wrap, T.na_Wrap_kind, rfl, rfl, _, rfl, ifs_neg (show ("coded" : Str) ≠ "whole" by decide) ?_⟩
      refine ⟨_, rfl, q, _, dx, _, _, rfl, hq, T.cl_Wrap, T.na_Wrap_kind, rfl, rfl, _, rfl, ifd_pos rfl ?_⟩
      exact ⟨_, rfl, _, rfl, n, m, rfl, by omega, by omega, _, rfl, _, _, rfl, rfl, .inr ⟨by omega, by omega⟩, k⟩
    | filled m =>
      have e1 : m = x1 := by injection hm with z; injection z
      have e2 : m = x2 := by injection hl with z; injection z
      subst e1 e2
      simp only [Wr.ok] at ha
      refine ⟨_, rfl, q, _, dx, _, _, rfl, hq, T.cl_Wrap, T.na_Wrap_kind, rfl, rfl, _, rfl, ifs_neg (show ("filled" : Str) ≠ "plus" by decide) ?_⟩
      refine ⟨_, rfl, q, _, dx, _, _, rfl, hq, T.cl_Wrap, T.na_Wrap_kind, rfl, rfl, _, rfl, ifs_neg (show ("filled" : Str) ≠ "told" by decide) ?_⟩
      refine ⟨_, rfl, q, _, dx, _, _, rfl, hq, T.cl_Wrap, T.na_Wrap_kind, rfl, rfl, _, rfl, ifs_neg (show ("filled" : Str) ≠ "whole" by decide) ?_⟩
      refine ⟨_, rfl, q, _, dx, _, _, rfl, hq, T.cl_Wrap, T.na_Wrap_kind, rfl, rfl, _, rfl, ifs_neg (show ("filled" : Str) ≠ "coded" by decide) ?_⟩
      refine ⟨_, rfl, q, _, dx, _, _, rfl, hq, T.cl_Wrap, T.na_Wrap_kind, rfl, rfl, _, rfl, ifd_pos rfl ?_⟩
      exact ⟨_, rfl, _, rfl, n, m, rfl, by omega, by omega, _, rfl, _, _, rfl, rfl, .inr ⟨by omega, by omega⟩, k⟩
end
/-! ### stacks -/
def stepF (p : Int) : Wr → Int
  | .coded m c => p * m * c
  | .pieces m _ => p * m
  | .cut m _ => p * m
  | .filled m => p * m
  | _ => p
def fineL (ws : List Wr) : Int := ws.foldl stepF 1
inductive WrapsAt (K : PySem.W.Frag) (H : Hp) : List V → List Wr → Prop where
  | nil : WrapsAt K H [] []
  | cons {a : Addr} {x : Wr} {xs : List V} {ws : List Wr} (h : WrapAt K H a x) (r : WrapsAt K H xs ws) : WrapsAt K H (.ref a :: xs) (x :: ws)
theorem WrapsAt.len {K : PySem.W.Frag} {H : Hp} {xs : List V} {ws : List Wr} (h : WrapsAt K H xs ws) : xs.length = ws.length := by
  induction h with
  | nil => rfl
  | cons _ _ ih => exact congrArg (· + 1) ih
theorem WrapsAt.get {K : PySem.W.Frag} {H : Hp} {xs : List V} {ws : List Wr} (h : WrapsAt K H xs ws) : ∀ {i : Nat} {x : V}, xs[i]? = some x → ∃ (a : Addr) (y : Wr), x = .ref a ∧ ws[i]? = some y ∧ WrapAt K H a y := by
  induction h with
  | nil =>
    intro i x e
    simp at e
  | cons h _ ih =>
    intro i x e
    cases i with
    | zero =>
      simp at e
      exact ⟨_, _, e.symm, rfl, h⟩
    | succ i => exact ih (by simpa using e)
theorem WrapsAt.same {K : PySem.W.Frag} {H H' : Hp} {xs : List V} {ws : List Wr} (h : WrapsAt K H xs ws) (s : Same H H') : WrapsAt K H' xs ws := by
  induction h with
  | nil => exact .nil
  | cons h _ ih => exact .cons (h.same s) ih
theorem WrapsAt.snoc {K : PySem.W.Frag} {H : Hp} {xs : List V} {ws : List Wr} {a : Addr} {x : Wr} (h : WrapsAt K H xs ws) (hx : WrapAt K H a x) : WrapsAt K H (xs ++ [.ref a]) (ws ++ [x]) := by
  induction h with
  | nil => exact .cons hx .nil
  | cons h _ ih => exact .cons h ih
def stkFs (b : Int) (t : Addr) (ws : List Wr) : List (Str × V) := [("base", .int b), ("wraps", .ref t), ("fineness", .int (fineL ws))]
structure StkOk (b : Int) (ws : List Wr) : Prop where
  b0 : 2 ≤ b
  b1 : b ≤ 256
  ok : ∀ a ∈ ws, a.ok
  len : ws.length ≤ 6
  fine : fineL ws ≤ 120
/-- a stack stands there -/
def StkAt (K : PySem.W.Frag) (H : Hp) (q : Addr) (b : Int) (ws : List Wr) : Prop := ∃ dx t xs, H q = some (.ins (He.ga K "Stack") dx (stkFs b t ws)) ∧ H t = some (.tup xs) ∧ WrapsAt K H xs ws
theorem StkAt.same {K : PySem.W.Frag} {H H' : Hp} {q : Addr} {b : Int} {ws : List Wr} (h : StkAt K H q b ws) (s : Same H H') : StkAt K H' q b ws := by
  obtain ⟨dx, t, xs, h1, h2, h3⟩ := h
  exact ⟨dx, t, xs, s _ _ h1, s _ _ h2, h3.same s⟩
/-- the size behind all wraps -/
noncomputable def grS (b : Int) (ws : List Wr) (n : Int) : Int := ws.foldl (fun m a => a.gr b m) n
def spFine (K : PySem.W.Frag) : Sp := fun vs H Q _ => ∃ (t : Addr) (xs : List V) (ws : List Wr), vs = [.ref t] ∧ (SqL K H t xs ∨ SqT K H t xs) ∧ WrapsAt K H xs ws ∧ (∀ a ∈ ws, a.ok) ∧ ∀ H', Same H H' → Q (.int (fineL ws)) H'
def spWraps (K : PySem.W.Frag) : Sp := fun vs H Q _ => ∃ (t : Addr) (xs : List V) (ws : List Wr), vs = [.ref t, .int 6] ∧ SqT K H t xs ∧ WrapsAt K H xs ws ∧ ws.length ≤ 6 ∧ ∀ H', Same H H' → Q .non H'
section
variable {P : Program} {w : World} {K : PySem.W.Frag} {mg : Str → Option Value} {base : Heap}
theorem up {H' : Hp} {z : Addr} {o : HO} (hz : H' z = none) : Same H' (upd H' z o) := fun y u e => by
  rw [upd_ne (ne_of_none e hz)]
  exact e
theorem ifb_pos {b : Bool} {A B : Prop} (h : b = true) (a : A) : if b = true then A else B := by
  rw [if_pos h]
  exact a
theorem ifb_neg {b : Bool} {A B : Prop} (h : b = false) (a : B) : if b = true then A else B := by
  rw [h, if_neg Bool.false_ne_true]
  exact a
theorem ok_fineness_of (T : Tx w K mg) : Prom P w K mg base CX0 1 "fineness_of" s_fineness_of ["wraps"] (spFine K) := by
  refine Prom.of T.d_fineness_of sc_fineness_of (fun vs H Q E h => ?_) (fun _ _ _ _ _ _ us hl => match us, hl with | [_], _ => rfl) (fun f cdv A outer s H vs Q E hr h => ?_)
  · obtain ⟨t, xs, ws, rfl, _⟩ := h
    rfl
  · obtain ⟨t, xs, ws, rfl, hT, hw, ha, k⟩ := h
    have inv : True := trivial
    refine ⟨_, (pss_cons (ps_set (i := 1) sc_fineness_of.nd rfl (Or.inl rfl) pe_int)
      (pss_cons (ps_for PassesOwn.never (by rfl) (pi_seq (pv 0)) (pg_name (i := 2) sc_fineness_of.nd rfl (Or.inl rfl)) (pss_one (ps_if (pt_cmpR op_eq (pe_fld (pv 2) rfl) pe_str (nomark _)) (pss_one (ps_set (i := 1) sc_fineness_of.nd rfl (Or.inl rfl) (pe_op op_mul (pe_op op_mul (pv 1) (pe_ix ix_tup (pe_fld (pv 2) rfl) pe_int (fun _ _ => rfl))) (pe_ix ix_tup (pe_fld (pv 2) rfl) pe_int (fun _ _ => rfl))))) (pss_one (ps_if (pt_cmpR op_in_seq (pe_fld (pv 2) rfl) (pe_tup (pa_cons pe_str (pa_cons pe_str (pa_cons pe_str pa_nil)))) (by rfl)) (pss_one (ps_set (i := 1) sc_fineness_of.nd rfl (Or.inl rfl) (pe_op op_mul (pv 1) (pe_ix ix_tup (pe_fld (pv 2) rfl) pe_int (fun _ _ => rfl))))) pss_nil)))))
      (pss_one (ps_ret (pv 1))))), ?_⟩
    rcases hT with hT | hT
    · have hT' : ∀ {H' : Hp}, Same H H' → SqL K H' t xs := fun {H'} hs => hs.seq hT
      refine .inl ⟨_, rfl, t, rfl, ⟨_, hT⟩, for_it (walk_list (K := K) (a := t) (xs := xs)) (fun i σ H' => Same H H' ∧ ∃ v, σ = [some (.ref t), some (.int ((ws.take i).foldl stepF 1)), v]) ⟨Same.refl H, none, rfl⟩ (fun _ _ H' _ h => hT' h.1) ?_ ?_⟩
      · rintro i x σ H1 H2 hi ⟨hs, v, rfl⟩ ⟨rfl, hx⟩
        obtain ⟨q, a, rfl, hq, hw1⟩ := hw.get hx
        have hok := ha a (List.mem_of_getElem? hq)
        obtain ⟨dx, p, h1, h2⟩ := hw1.same hs
        have et : (ws.take (i + 1)).foldl stepF 1 = stepF ((ws.take i).foldl stepF 1) a := by
          rw [List.take_succ, hq, List.foldl_append]
          rfl
        generalize (ws.take i).foldl stepF 1 = m at et ⊢
        rw [et]
        have num : ∀ {j : Nat} {n : Int}, a.nums[j]? = some n → atI (a.nums.map V.int) ((j : Nat) : Int) = some (.int n) := fun {j n} hj => atI_nat (by rw [List.getElem?_map, hj]; rfl)
        refine ⟨_, rfl, q, _, dx, _, _, rfl, h1, T.cl_Wrap, T.na_Wrap_kind, rfl, rfl, _, rfl, ?_⟩
        cases a with
        | coded m' c =>
          refine ifd_pos rfl ?_
          simp only [Wr.ok] at hok
          refine ⟨_, rfl, _, rfl, q, _, dx, _, _, rfl, h1, T.cl_Wrap, T.na_Wrap_numbers, rfl, p, _, _, _, rfl, rfl, SqT.of h2, num (j := 0) rfl, _, _, rfl, rfl, .inr ⟨by omega, by omega⟩, ?_⟩
          refine ⟨_, rfl, q, _, dx, _, _, rfl, h1, T.cl_Wrap, T.na_Wrap_numbers, rfl, p, _, _, _, rfl, rfl, SqT.of h2, num (j := 1) rfl, _, _, rfl, rfl, .inr ⟨by omega, by omega⟩, ?_⟩
          exact ⟨hs, _, rfl⟩
        | plus c =>
          refine ifs_neg (show ("plus" : Str) ≠ "coded" by decide) ?_
          refine ⟨_, rfl, q, _, dx, _, _, rfl, h1, T.cl_Wrap, T.na_Wrap_kind, rfl, (by show 3 ≤ sizeLine; decide), fun t2 ht2 => ?_⟩
          refine ⟨t2, _, rfl, .inr (SqT.of upd_same), rfl, rfl, _, rfl, ifb_neg (by kernel_rfl) ?_⟩
          exact ⟨hs.trans (up ht2), _, rfl⟩
        | told c =>
          refine ifs_neg (show ("told" : Str) ≠ "coded" by decide) ?_
          refine ⟨_, rfl, q, _, dx, _, _, rfl, h1, T.cl_Wrap, T.na_Wrap_kind, rfl, (by show 3 ≤ sizeLine; decide), fun t2 ht2 => ?_⟩
          refine ⟨t2, _, rfl, .inr (SqT.of upd_same), rfl, rfl, _, rfl, ifb_neg (by kernel_rfl) ?_⟩
          exact ⟨hs.trans (up ht2), _, rfl⟩
        | whole c =>
          refine ifs_neg (show ("whole" : Str) ≠ "coded" by decide) ?_
          refine ⟨_, rfl, q, _, dx, _, _, rfl, h1, T.cl_Wrap, T.na_Wrap_kind, rfl, (by show 3 ≤ sizeLine; decide), fun t2 ht2 => ?_⟩
          refine ⟨t2, _, rfl, .inr (SqT.of upd_same), rfl, rfl, _, rfl, ifb_neg (by kernel_rfl) ?_⟩
          exact ⟨hs.trans (up ht2), _, rfl⟩
        | pieces m' c =>
          refine ifs_neg (show ("pieces" : Str) ≠ "coded" by decide) ?_
          simp only [Wr.ok] at hok
          refine ⟨_, rfl, q, _, dx, _, _, rfl, h1, T.cl_Wrap, T.na_Wrap_kind, rfl, (by show 3 ≤ sizeLine; decide), fun t2 ht2 => ?_⟩
          refine ⟨t2, _, rfl, .inr (SqT.of upd_same), rfl, rfl, _, rfl, ifb_pos (by kernel_rfl) ?_⟩
          have g1 := (up ht2 (o := .tup [V.str "pieces", V.str "cut", V.str "filled"])) _ _ h1
          have g2 := (up ht2 (o := .tup [V.str "pieces", V.str "cut", V.str "filled"])) _ _ h2
          refine ⟨_, rfl, _, rfl, q, _, dx, _, _, rfl, g1, T.cl_Wrap, T.na_Wrap_numbers, rfl, p, _, _, _, rfl, rfl, SqT.of g2, num (j := 0) rfl, _, _, rfl, rfl, .inr ⟨by omega, by omega⟩, ?_⟩
          exact ⟨hs.trans (up ht2), _, rfl⟩
        | cut m' c =>
          refine ifs_neg (show ("cut" : Str) ≠ "coded" by decide) ?_
          simp only [Wr.ok] at hok
          refine ⟨_, rfl, q, _, dx, _, _, rfl, h1, T.cl_Wrap, T.na_Wrap_kind, rfl, (by show 3 ≤ sizeLine; decide), fun t2 ht2 => ?_⟩
          refine ⟨t2, _, rfl, .inr (SqT.of upd_same), rfl, rfl, _, rfl, ifb_pos (by kernel_rfl) ?_⟩
          have g1 := (up ht2 (o := .tup [V.str "pieces", V.str "cut", V.str "filled"])) _ _ h1
          have g2 := (up ht2 (o := .tup [V.str "pieces", V.str "cut", V.str "filled"])) _ _ h2
          refine ⟨_, rfl, _, rfl, q, _, dx, _, _, rfl, g1, T.cl_Wrap, T.na_Wrap_numbers, rfl, p, _, _, _, rfl, rfl, SqT.of g2, num (j := 0) rfl, _, _, rfl, rfl, .inr ⟨by omega, by omega⟩, ?_⟩
          exact ⟨hs.trans (up ht2), _, rfl⟩
        | filled m' =>
          refine ifs_neg (show ("filled" : Str) ≠ "coded" by decide) ?_
          simp only [Wr.ok] at hok
          refine ⟨_, rfl, q, _, dx, _, _, rfl, h1, T.cl_Wrap, T.na_Wrap_kind, rfl, (by show 3 ≤ sizeLine; decide), fun t2 ht2 => ?_⟩
          refine ⟨t2, _, rfl, .inr (SqT.of upd_same), rfl, rfl, _, rfl, ifb_pos (by kernel_rfl) ?_⟩
          have g1 := (up ht2 (o := .tup [V.str "pieces", V.str "cut", V.str "filled"])) _ _ h1
          have g2 := (up ht2 (o := .tup [V.str "pieces", V.str "cut", V.str "filled"])) _ _ h2
          refine ⟨_, rfl, _, rfl, q, _, dx, _, _, rfl, g1, T.cl_Wrap, T.na_Wrap_numbers, rfl, p, _, _, _, rfl, rfl, SqT.of g2, num (j := 0) rfl, _, _, rfl, rfl, .inr ⟨by omega, by omega⟩, ?_⟩
          exact ⟨hs.trans (up ht2), _, rfl⟩
      · rintro σ H' ⟨hs, v, rfl⟩
        rw [hw.len, List.take_length]
        exact ⟨_, rfl, k _ hs⟩
    · have hT' : ∀ {H' : Hp}, Same H H' → SqT K H' t xs := fun {H'} hs => by
        rcases hT with (h | ⟨o, h⟩) | h
        · exact .inl (.inl (hs _ _ h))
        · exact .inl (.inr ⟨o, hs _ _ h⟩)
        · exact .inr h
      refine .inr ⟨_, rfl, t, rfl, ⟨_, hT⟩, for_it (walk_tup (K := K) (a := t) (xs := xs)) (fun i σ H' => Same H H' ∧ ∃ v, σ = [some (.ref t), some (.int ((ws.take i).foldl stepF 1)), v]) ⟨Same.refl H, none, rfl⟩ (fun _ _ H' _ h => hT' h.1) ?_ ?_⟩
      · rintro i x σ H1 H2 hi ⟨hs, v, rfl⟩ ⟨rfl, hx⟩
        obtain ⟨q, a, rfl, hq, hw1⟩ := hw.get hx
        have hok := ha a (List.mem_of_getElem? hq)
        obtain ⟨dx, p, h1, h2⟩ := hw1.same hs
        have et : (ws.take (i + 1)).foldl stepF 1 = stepF ((ws.take i).foldl stepF 1) a := by
          rw [List.take_succ, hq, List.foldl_append]
          rfl
        generalize (ws.take i).foldl stepF 1 = m at et ⊢
        rw [et]
        have num : ∀ {j : Nat} {n : Int}, a.nums[j]? = some n → atI (a.nums.map V.int) ((j : Nat) : Int) = some (.int n) := fun {j n} hj => atI_nat (by rw [List.getElem?_map, hj]; rfl)
        refine ⟨_, rfl, q, _, dx, _, _, rfl, h1, T.cl_Wrap, T.na_Wrap_kind, rfl, rfl, _, rfl, ?_⟩
        cases a with
        | coded m' c =>
          refine ifd_pos rfl ?_
          simp only [Wr.ok] at hok
          refine ⟨_, rfl, _, rfl, q, _, dx, _, _, rfl, h1, T.cl_Wrap, T.na_Wrap_numbers, rfl, p, _, _, _, rfl, rfl, SqT.of h2, num (j := 0) rfl, _, _, rfl, rfl, .inr ⟨by omega, by omega⟩, ?_⟩
          refine ⟨_, rfl, q, _, dx, _, _, rfl, h1, T.cl_Wrap, T.na_Wrap_numbers, rfl, p, _, _, _, rfl, rfl, SqT.of h2, num (j := 1) rfl, _, _, rfl, rfl, .inr ⟨by omega, by omega⟩, ?_⟩
          exact ⟨hs, _, rfl⟩
        | plus c =>
          refine ifs_neg (show ("plus" : Str) ≠ "coded" by decide) ?_
          refine ⟨_, rfl, q, _, dx, _, _, rfl, h1, T.cl_Wrap, T.na_Wrap_kind, rfl, (by show 3 ≤ sizeLine; decide), fun t2 ht2 => ?_⟩
          refine ⟨t2, _, rfl, .inr (SqT.of upd_same), rfl, rfl, _, rfl, ifb_neg (by kernel_rfl) ?_⟩
          exact ⟨hs.trans (up ht2), _, rfl⟩
        | told c =>
          refine ifs_neg (show ("told" : Str) ≠ "coded" by decide) ?_
          refine ⟨_, rfl, q, _, dx, _, _, rfl, h1, T.cl_Wrap, T.na_Wrap_kind, rfl, (by show 3 ≤ sizeLine; decide), fun t2 ht2 => ?_⟩
          refine ⟨t2, _, rfl, .inr (SqT.of upd_same), rfl, rfl, _, rfl, ifb_neg (by kernel_rfl) ?_⟩
          exact ⟨hs.trans (up ht2), _, rfl⟩
        | whole c =>
          refine ifs_neg (show ("whole" : Str) ≠ "coded" by decide) ?_
          refine ⟨_, rfl, q, _, dx, _, _, rfl, h1, T.cl_Wrap, T.na_Wrap_kind, rfl, (by show 3 ≤ sizeLine; decide), fun t2 ht2 => ?_⟩
          refine ⟨t2, _, rfl, .inr (SqT.of upd_same), rfl, rfl, _, rfl, ifb_neg (by kernel_rfl) ?_⟩
          exact ⟨hs.trans (up ht2), _, rfl⟩
        | pieces m' c =>
          refine ifs_neg (show ("pieces" : Str) ≠ "coded" by decide) ?_
          simp only [Wr.ok] at hok
          refine ⟨_, rfl, q, _, dx, _, _, rfl, h1, T.cl_Wrap, T.na_Wrap_kind, rfl, (by show 3 ≤ sizeLine; decide), fun t2 ht2 => ?_⟩
          refine ⟨t2, _, rfl, .inr (SqT.of upd_same), rfl, rfl, _, rfl, ifb_pos (by kernel_rfl) ?_⟩
          have g1 := (up ht2 (o := .tup [V.str "pieces", V.str "cut", V.str "filled"])) _ _ h1
          have g2 := (up ht2 (o := .tup [V.str "pieces", V.str "cut", V.str "filled"])) _ _ h2
          refine ⟨_, rfl, _, rfl, q, _, dx, _, _, rfl, g1, T.cl_Wrap, T.na_Wrap_numbers, rfl, p, _, _, _, rfl, rfl, SqT.of g2, num (j := 0) rfl, _, _, rfl, rfl, .inr ⟨by omega, by omega⟩, ?_⟩
          exact ⟨hs.trans (up ht2), _, rfl⟩
        | cut m' c =>
          refine ifs_neg (show ("cut" : Str) ≠ "coded" by decide) ?_
          simp only [Wr.ok] at hok
          refine ⟨_, rfl, q, _, dx, _, _, rfl, h1, T.cl_Wrap, T.na_Wrap_kind, rfl, (by show 3 ≤ sizeLine; decide), fun t2 ht2 => ?_⟩
          refine ⟨t2, _, rfl, .inr (SqT.of upd_same), rfl, rfl, _, rfl, ifb_pos (by kernel_rfl) ?_⟩
          have g1 := (up ht2 (o := .tup [V.str "pieces", V.str "cut", V.str "filled"])) _ _ h1
          have g2 := (up ht2 (o := .tup [V.str "pieces", V.str "cut", V.str "filled"])) _ _ h2
          refine ⟨_, rfl, _, rfl, q, _, dx, _, _, rfl, g1, T.cl_Wrap, T.na_Wrap_numbers, rfl, p, _, _, _, rfl, rfl, SqT.of g2, num (j := 0) rfl, _, _, rfl, rfl, .inr ⟨by omega, by omega⟩, ?_⟩
          exact ⟨hs.trans (up ht2), _, rfl⟩
        | filled m' =>
          refine ifs_neg (show ("filled" : Str) ≠ "coded" by decide) ?_
          simp only [Wr.ok] at hok
          refine ⟨_, rfl, q, _, dx, _, _, rfl, h1, T.cl_Wrap, T.na_Wrap_kind, rfl, (by show 3 ≤ sizeLine; decide), fun t2 ht2 => ?_⟩
          refine ⟨t2, _, rfl, .inr (SqT.of upd_same), rfl, rfl, _, rfl, ifb_pos (by kernel_rfl) ?_⟩
          have g1 := (up ht2 (o := .tup [V.str "pieces", V.str "cut", V.str "filled"])) _ _ h1
          have g2 := (up ht2 (o := .tup [V.str "pieces", V.str "cut", V.str "filled"])) _ _ h2
          refine ⟨_, rfl, _, rfl, q, _, dx, _, _, rfl, g1, T.cl_Wrap, T.na_Wrap_numbers, rfl, p, _, _, _, rfl, rfl, SqT.of g2, num (j := 0) rfl, _, _, rfl, rfl, .inr ⟨by omega, by omega⟩, ?_⟩
          exact ⟨hs.trans (up ht2), _, rfl⟩
      · rintro σ H' ⟨hs, v, rfl⟩
        rw [hw.len, List.take_length]
        exact ⟨_, rfl, k _ hs⟩
end
theorem gr_pow {b : Int} {a : Wr} (hb : 2 ≤ b) (h : a.ok) {n : Int} {k : Nat} (hk : 12 ≤ k) (hn : 0 ≤ n) (hn2 : n < 2 ^ k) : 0 ≤ a.gr b n ∧ a.gr b n < 2 ^ (k + 8) := by
  have g := gr_le hb h hn
  have e : (2 : Int) ^ (k + 8) = 2 ^ k * 256 := by rw [Int.pow_add]; rfl
  have e2 : (2 : Int) ^ 12 ≤ 2 ^ k := pow_mono (by decide) hk
  have e3 : (2 : Int) ^ 12 = 4096 := by decide
  omega
theorem grS_pow {b : Int} (hb : 2 ≤ b) : ∀ (ws : List Wr), (∀ a ∈ ws, a.ok) → ∀ {n : Int} {k : Nat}, 12 ≤ k → 0 ≤ n → n < 2 ^ k → 0 ≤ grS b ws n ∧ grS b ws n < 2 ^ (k + 8 * ws.length)
  | [], _, n, k, _, h0, h1 => ⟨h0, h1⟩
  | a :: ws, ha, n, k, hk, h0, h1 => by
    have g := gr_pow hb (ha a (List.mem_cons_self ..)) hk h0 h1
    have ih := grS_pow hb ws (fun x hx => ha x (List.mem_cons_of_mem _ hx)) (show 12 ≤ k + 8 by omega) g.1 g.2
    refine ⟨ih.1, ?_⟩
    have e : k + 8 + 8 * ws.length = k + 8 * (a :: ws).length := by simp; omega
    rw [e] at ih
    exact ih.2
def spStack0 (K : PySem.W.Frag) : Sp := fun vs H Q _ => ∃ (x p dx : Addr) (b : Int) (xs : List V) (ws : List Wr), vs = [.ref x, .int b, .ref p] ∧ StkOk b ws ∧ H x = some (.ins (He.ga K "Stack") dx []) ∧ H p = some (.tup xs) ∧ WrapsAt K H xs ws ∧
  ∀ H', Kp x H H' → H' x = some (.ins (He.ga K "Stack") dx (stkFs b p ws)) → Q .non H'
def spStack (K : PySem.W.Frag) : Sp := fun vs H Q _ => ∃ (b : Int) (xs : List V) (ws : List Wr), vs = .int b :: xs ∧ StkOk b ws ∧ WrapsAt K H xs ws ∧ ∀ q H', H q = none → Same H H' → StkAt K H' q b ws → Q (.ref q) H'
def spSGrown (K : PySem.W.Frag) : Sp := fun vs H Q _ => ∃ (q : Addr) (b : Int) (ws : List Wr) (n : Int), vs = [.ref q, .int n] ∧ StkAt K H q b ws ∧ StkOk b ws ∧ 0 ≤ n ∧ n < 2 ^ 1000 ∧ Q (.int (grS b ws n)) H
def spSSize (K : PySem.W.Frag) : Sp := fun vs H Q _ => ∃ (q : Addr) (b : Int) (ws : List Wr) (n : Int), vs = [.ref q, .int n] ∧ StkAt K H q b ws ∧ StkOk b ws ∧ 0 ≤ n ∧ n ≤ 10 ^ 60 - 1 ∧ Q (.int (grS b ws n)) H
def spIsWrap (K : PySem.W.Frag) : Sp := fun vs H Q _ => ∃ (q : Addr) (a : Wr), vs = [.ref q] ∧ WrapAt K H q a ∧ Q .non H
def spIsStack (K : PySem.W.Frag) : Sp := fun vs H Q _ => ∃ (q : Addr) (b : Int) (ws : List Wr), vs = [.ref q] ∧ StkAt K H q b ws ∧ Q .non H
def spAdd (K : PySem.W.Frag) : Sp := fun vs H Q _ => ∃ (q r : Addr) (b : Int) (ws : List Wr) (a : Wr), vs = [.ref q, .ref r] ∧ StkAt K H q b ws ∧ WrapAt K H r a ∧ ws.length < 6 ∧ StkOk b (ws ++ [a]) ∧ ∀ q' H', H q' = none → Same H H' → StkAt K H' q' b (ws ++ [a]) → Q (.ref q') H'
section
variable {P : Program} {w : World} {K : PySem.W.Frag} {mg : Str → Option Value} {base : Heap}
theorem ok_check_wraps (T : Tx w K mg) : Prom P w K mg base CX0 1 "check_wraps" s_check_wraps ["values", "most"] (spWraps K) := by
  refine Prom.of T.d_check_wraps sc_check_wraps (fun vs H Q E h => ?_) (fun _ _ _ _ _ _ us hl => match us, hl with | [_, _], _ => rfl) (fun f cdv A outer s H vs Q E hr h => ?_)
  · obtain ⟨t, xs, ws, rfl, _⟩ := h
    rfl
  · obtain ⟨t, xs, ws, rfl, hT, hw, hl, k⟩ := h
    have hT' : ∀ {H' : Hp}, Same H H' → SqT K H' t xs := fun {H'} hs => by
      rcases hT with (h | ⟨o, h⟩) | h
      · exact .inl (.inl (hs _ _ h))
      · exact .inl (.inr ⟨o, hs _ _ h⟩)
      · exact .inr h
    have hlx := hw.len
    refine ⟨_, (pss_cons (ps_if (pt_cmp (pc_gt (pe_callB call_len_seq (by rfl) T.b_len (by decide +kernel) (pa_cons (pv 0) pa_nil)) (pv 1))) (pss_one ps_never) pss_nil)
      (pss_one (ps_for PassesOwn.never (by rfl) (pi_enumT (by rfl) T.b_enumerate (pa_cons (pv 0) pa_nil)) (pg_tup rfl (pgs_cons (pg_name (i := 2) sc_check_wraps.nd rfl (Or.inl rfl)) (pgs_cons (pg_name (i := 3) sc_check_wraps.nd rfl (Or.inl rfl)) pgs_nil))) (pss_one (ps_if (pt_not (pt_val (pe_callB call_isi (by rfl) T.b_isinstance (by decide +kernel) (pa_cons (pv 3) (pa_cons (pe_glob (v := .ref _) (by rfl) T.k_Wrap rfl) pa_nil))))) (pss_one ps_never) pss_nil))))), ?_⟩
    refine ⟨_, rfl, t, xs, rfl, .inr hT, _, rfl, _, _, rfl, rfl, _, rfl, ifd (fun c => absurd c (by show ¬ (6 : Int) < (xs.length : Int); omega)) (fun _ => ?_)⟩
    refine ⟨_, rfl, t, xs, rfl, hT, for_it (walk_enumT (K := K) (a := t) (xs := xs)) (fun i σ H' => Same H H' ∧ ∃ v1 v2, σ = [some (.ref t), some (.int 6), v1, v2]) ⟨Same.refl H, none, none, rfl⟩ (fun _ _ H' _ h => hT' h.1) ?_ ?_⟩
    · rintro i x σ H1 H2 hi ⟨hs, v1, v2, rfl⟩ ⟨t2, x1, x2, rfl, ht2, rfl, e1, e2⟩
      cases e1
      obtain ⟨q, a, rfl, hq, hw1⟩ := hw.get e2
      have hs2 := hs.trans (up (o := .tup [.int (i : Nat), .ref q]) ht2)
      obtain ⟨dx, p, h1, h2⟩ := hw1.same hs2
      refine ⟨t2, _, rfl, SqT.of upd_same, rfl, _, _, rfl, _, _, rfl, rfl, ?_⟩
      refine ⟨_, rfl, _, _, _, _, true, rfl, .own _, T.is_Wrap.ty h1, kit_self, true, rfl, iteF ?_⟩
      exact ⟨hs2, _, _, rfl⟩
    · rintro σ H' ⟨hs, v1, v2, rfl⟩
      exact k _ hs
theorem ok_Stack (T : Tx w K mg) : PromC P w K mg base CX0 4 "Stack" (spStack K) := by
  refine PromC.star (sp0 := spStack0 K) T.mk_Stack T.k_Stack T.dm_Stack___init__ sc_Stack___init__ (fun _ _ _ _ _ _ _ _ => rfl) (fun _ _ _ _ _ _ _ _ _ _ => rfl) (fun f cdv A outer s H vs Q E hr h => ?_) (fun vs H Q E h => ?_)
  · obtain ⟨x, p, dx, b, xs, ws, rfl, so, hx, hp, hw, k⟩ := h
    refine ⟨_, (pss_cons (ps_expr (pe_callP (ok_check_base T) (hr.mono (by decide)) (by rfl) pass0 (pa_cons (pv 1) pa_nil)))
      (pss_cons (ps_expr (pe_callP (ok_check_wraps T) (hr.mono (by decide)) (by rfl) pass0 (pa_cons (pv 2) (pa_cons (pe_gint T.c_MOST_WRAPS) pa_nil))))
      (pss_cons (ps_set (i := 3) sc_Stack___init__.nd rfl (Or.inl rfl) (pe_callP (ok_fineness_of T) (hr.mono (by decide)) (by rfl) pass0 (pa_cons (pv 2) pa_nil)))
      (pss_cons (ps_if (pt_cmp (pc_gt (pv 3) (pe_gint T.c_MOST_FINENESS))) (pss_one ps_never) pss_nil)
      (pss_cons (ps_fld (pv 0) (pv 1) rfl)
      (pss_cons (ps_fld (pv 0) (pv 2) rfl)
      (pss_one (ps_fld (pv 0) (pv 3) rfl)))))))), ?_⟩
    refine ⟨_, rfl, b, rfl, so.b0, so.b1, ?_⟩
    refine ⟨_, rfl, p, xs, ws, rfl, SqT.of hp, hw, so.len, fun H1 s1 => ?_⟩
    refine ⟨_, rfl, p, xs, ws, rfl, .inr (SqT.of (s1 _ _ hp)), hw.same s1, so.ok, fun H2 s2 => ?_⟩
    have sf := so.fine
    refine ⟨_, rfl, _, _, rfl, rfl, _, rfl, ifd (fun c => absurd c (by show ¬ (120 : Int) < fineL ws; omega)) (fun _ => ?_)⟩
    refine ⟨_, rfl, _, rfl, x, _, dx, _, rfl, s2 _ _ (s1 _ _ hx), T.cl_Stack, T.na_Stack_base, (show (0 : Nat) < 1000 by decide), ?_⟩
    refine ⟨_, rfl, _, rfl, x, _, dx, _, rfl, upd_same, T.cl_Stack, T.na_Stack_wraps, (show (1 : Nat) < 1000 by decide), ?_⟩
    refine ⟨_, rfl, _, rfl, x, _, dx, _, rfl, upd_same, T.cl_Stack, T.na_Stack_fineness, (show (2 : Nat) < 1000 by decide), ?_⟩
    exact k _ (Kp.set (Kp.set (Kp.set fun z o n e => s2 _ _ (s1 _ _ e)))) upd_same
  · obtain ⟨b, xs, ws, rfl, so, hw, k⟩ := h
    have hl : xs.length ≤ sizeLine := by
      rw [hw.len, sizeLine_eq]
      have := so.len
      omega
    refine ⟨_, _, rfl, hl, fun x dx p hx hdx nd np npd hp => ?_⟩
    have same : Same H (upd (upd (upd H dx (.own x)) x (.ins (He.ga K "Stack") dx [])) p (.tup xs)) := fun z o e => by
      rw [upd_ne (ne_of_none e hp), upd_ne (ne_of_none e hx), upd_ne (ne_of_none e hdx)]
      exact e
    refine ⟨x, p, dx, b, xs, ws, rfl, so, by rw [upd_ne (Ne.symm np)]; exact upd_same, upd_same, hw.same same, fun H' kp hx' => ⟨rfl, ?_⟩⟩
    have s2 : Same H H' := fun z o e => kp _ _ (ne_of_none e hx) (same _ _ e)
    exact k x H' hx s2 ⟨dx, p, xs, hx', kp _ _ np upd_same, hw.same s2⟩
theorem ok_Stack_grown (T : Tx w K mg) : PromM P w K mg base CX0 4 "Stack" "grown" ["self", "length"] (spSGrown K) := by
  refine PromM.of T.cl_Stack T.me_Stack_grown T.dm_Stack_grown sc_Stack_grown (fun vs H Q E h => ?_) (fun _ _ _ _ _ _ us hl => match us, hl with | [_, _], _ => rfl) (fun f cdv A outer s H vs Q E hr h => ?_)
  · obtain ⟨q, b, ws, n, rfl, _⟩ := h
    rfl
  · obtain ⟨q, b, ws, n, rfl, ⟨dx, t, xs, hq, ht, hw⟩, so, n0, n1, k⟩ := h
    refine ⟨_, (pss_cons (ps_for PassesOwn.never (by rfl) (pi_tup (pe_fld (pv 0) rfl)) (pg_name (i := 2) sc_Stack_grown.nd rfl (Or.inl rfl)) (pss_one (ps_set (i := 1) sc_Stack_grown.nd rfl (Or.inl rfl) (pe_methP (ok_Wrap_grown T) (hr.mono (by decide)) pass0 (pv 2) (pa_cons (pv 1) (pa_cons (pe_fld (pv 0) rfl) pa_nil))))))
      (pss_one (ps_ret (pv 1)))), ?_⟩
    refine ⟨_, rfl, q, _, dx, _, _, rfl, hq, T.cl_Stack, T.na_Stack_wraps, rfl, t, rfl, ⟨_, SqT.of ht⟩, for_it (walk_tup (K := K) (a := t) (xs := xs)) (fun i σ H' => H' = H ∧ ∃ v, σ = [some (.ref q), some (.int (grS b (ws.take i) n)), v]) ⟨rfl, none, rfl⟩ (fun _ _ H' _ h => by rw [h.1]; exact SqT.of ht) ?_ ?_⟩
    · rintro i x σ H1 H2 hi ⟨rfl, v, rfl⟩ ⟨rfl, hx⟩
      obtain ⟨r, a, rfl, hr2, hw1⟩ := hw.get hx
      have hok := so.ok a (List.mem_of_getElem? hr2)
      obtain ⟨dx2, p, h1, h2⟩ := id hw1
      have et : grS b (ws.take (i + 1)) n = a.gr b (grS b (ws.take i) n) := by
        unfold grS
        rw [List.take_succ, hr2, List.foldl_append]
        rfl
      have hl := so.len
      have hlt : (ws.take i).length ≤ 6 := by
        rw [List.length_take]
        omega
      have bd := grS_pow so.b0 (ws.take i) (fun z hz => so.ok z (List.mem_of_mem_take hz)) (show 12 ≤ 1000 by decide) n0 n1
      have bd2 : grS b (ws.take i) n < 2 ^ 3000 := Int.lt_of_lt_of_le bd.2 (pow_mono (by decide) (by omega))
      rw [et]
      generalize grS b (ws.take i) n = m at bd bd2 ⊢
      refine ⟨_, rfl, r, dx2, _, rfl, h1, rfl, _, rfl, _, rfl, q, _, dx, _, _, rfl, hq, T.cl_Stack, T.na_Stack_base, rfl, a, r, m, b, rfl, hw1, hok, so.b0, so.b1, bd.1, bd2, ?_⟩
      exact ⟨rfl, _, rfl⟩
    · rintro σ H' ⟨rfl, v, rfl⟩
      rw [hw.len, List.take_length]
      exact ⟨_, rfl, k⟩
end
section
variable {P : Program} {w : World} {K : PySem.W.Frag} {mg : Str → Option Value} {base : Heap}
theorem ok_check_wrap (T : Tx w K mg) : Prom P w K mg base CX0 1 "check_wrap" s_check_wrap ["value"] (spIsWrap K) := by
  refine Prom.of T.d_check_wrap sc_check_wrap (fun vs H Q E h => ?_) (fun _ _ _ _ _ _ us hl => match us, hl with | [_], _ => rfl) (fun f cdv A outer s H vs Q E hr h => ?_)
  · obtain ⟨q, a, rfl, _⟩ := h
    rfl
  · obtain ⟨q, a, rfl, ⟨dx, p, h1, h2⟩, k⟩ := h
    refine ⟨_, (pss_one (ps_if (pt_not (pt_val (pe_callB call_isi (by rfl) T.b_isinstance (by decide +kernel) (pa_cons (pv 0) (pa_cons (pe_glob (v := .ref _) (by rfl) T.k_Wrap rfl) pa_nil))))) (pss_one ps_never) pss_nil)), ?_⟩
    exact ⟨_, rfl, _, _, _, _, true, rfl, .own _, T.is_Wrap.ty h1, kit_self, true, rfl, iteF k⟩
end
def spSLen (K : PySem.W.Frag) : Sp := fun vs H Q _ => ∃ (q : Addr) (b : Int) (ws : List Wr), vs = [.ref q] ∧ StkAt K H q b ws ∧ Q (.int (ws.length : Nat)) H
section
variable {P : Program} {w : World} {K : PySem.W.Frag} {mg : Str → Option Value} {base : Heap}
theorem ok_Stack___len__ (T : Tx w K mg) : PromM P w K mg base CX0 1 "Stack" "__len__" ["self"] (spSLen K) := by
  refine PromM.of T.cl_Stack T.me_Stack___len__ T.dm_Stack___len__ sc_Stack___len__ (fun vs H Q E h => ?_) (fun _ _ _ _ _ _ us hl => match us, hl with | [_], _ => rfl) (fun f cdv A outer s H vs Q E hr h => ?_)
  · obtain ⟨q, b, ws, rfl, _⟩ := h
    rfl
  · obtain ⟨q, b, ws, rfl, ⟨dx, t, xs, hq, ht, hw⟩, k⟩ := h
    refine ⟨_, (pss_one (ps_ret (pe_callB call_len_seq (by rfl) T.b_len (by decide +kernel) (pa_cons (pe_fld (pv 0) rfl) pa_nil)))), ?_⟩
    rw [← hw.len] at k
    exact ⟨_, rfl, q, _, dx, _, _, rfl, hq, T.cl_Stack, T.na_Stack_wraps, rfl, t, xs, rfl, .inr (SqT.of ht), k⟩
end
section
variable {P : Program} {w : World} {K : PySem.W.Frag} {mg : Str → Option Value} {base : Heap}
theorem ok_check_stack (T : Tx w K mg) : Prom P w K mg base CX0 1 "check_stack" s_check_stack ["value"] (spIsStack K) := by
  refine Prom.of T.d_check_stack sc_check_stack (fun vs H Q E h => ?_) (fun _ _ _ _ _ _ us hl => match us, hl with | [_], _ => rfl) (fun f cdv A outer s H vs Q E hr h => ?_)
  · obtain ⟨q, b, ws, rfl, _⟩ := h
    rfl
  · obtain ⟨q, b, ws, rfl, ⟨dx, t, xs, h1, h2, h3⟩, k⟩ := h
    refine ⟨_, (pss_one (ps_if (pt_not (pt_val (pe_callB call_isi (by rfl) T.b_isinstance (by decide +kernel) (pa_cons (pv 0) (pa_cons (pe_glob (v := .ref _) (by rfl) T.k_Stack rfl) pa_nil))))) (pss_one ps_never) pss_nil)), ?_⟩
    exact ⟨_, rfl, _, _, _, _, true, rfl, .own _, T.is_Stack.ty h1, kit_self, true, rfl, iteF k⟩
end
def Wr.use : Wr → Int
  | .coded m c => m * c
  | .pieces m _ => m
  | .cut m _ => m
  | .filled m => m
  | _ => 1
theorem step_use (p : Int) (a : Wr) : stepF p a = p * a.use := by
  cases a <;> simp [stepF, Wr.use, Int.mul_assoc]
theorem use_pos {a : Wr} (h : a.ok) : 1 ≤ a.use := by
  cases a with
  | coded m c =>
    simp only [Wr.ok] at h
    simp only [Wr.use]
    have := Int.mul_le_mul h.1 (show 1 ≤ c by omega) (by decide) (by omega)
    omega
  | _ => simp only [Wr.ok] at h; simp only [Wr.use]; omega
theorem fine_app (ws : List Wr) (a : Wr) : fineL (ws ++ [a]) = fineL ws * a.use := by
  unfold fineL
  rw [List.foldl_append]
  exact step_use _ a
theorem fine_pos : ∀ {ws : List Wr}, (∀ a ∈ ws, a.ok) → ∀ {p : Int}, 1 ≤ p → p ≤ ws.foldl stepF p
  | [], _, p, _ => Int.le_refl p
  | a :: ws, h, p, hp => by
    have u := use_pos (h a (List.mem_cons_self ..))
    have m := Int.mul_le_mul_of_nonneg_left u (show 0 ≤ p by omega)
    rw [Int.mul_one] at m
    have e : stepF p a = p * a.use := step_use p a
    have ih := fine_pos (ws := ws) (fun x hx => h x (List.mem_cons_of_mem _ hx)) (p := stepF p a) (by omega)
    show p ≤ ws.foldl stepF (stepF p a)
    omega
theorem fine_take {ws : List Wr} (h : ∀ a ∈ ws, a.ok) (i : Nat) : fineL (ws.take i) ≤ fineL ws := by
  have e : fineL ws = (ws.drop i).foldl stepF (fineL (ws.take i)) := by
    unfold fineL
    rw [← List.foldl_append, List.take_append_drop]
  rw [e]
  exact fine_pos (fun x hx => h x (List.mem_of_mem_drop hx)) (fine_pos (fun x hx => h x (List.mem_of_mem_take hx)) (by decide))
/-- the numbers from lo on whose square is within the room, among so many -/
def sqs (r : Int) (i : Nat) : List Int := ((List.range i).map fun (j : Nat) => 1 + (j : Int)).filter fun z => decide (z * z ≤ r)
theorem sqs_succ (r : Int) (i : Nat) : sqs r (i + 1) = sqs r i ++ (if (1 + (i : Int)) * (1 + (i : Int)) ≤ r then [1 + (i : Int)] else []) := by
  unfold sqs
  rw [List.range_succ, List.map_append, List.filter_append]
  congr 1
  by_cases c : (1 + (i : Int)) * (1 + (i : Int)) ≤ r <;> simp [c]
theorem sqs_len {r : Int} (hr : 1 ≤ r) : ∀ i : Nat, (sqs r i).length ≤ i ∧ (1 ≤ i → 1 ≤ (sqs r i).length) ∧ ∀ z : Int, 1 ≤ z → z ≤ (sqs r i).length → z * z ≤ r
  | 0 => ⟨Nat.zero_le _, fun h => absurd h (by decide), fun z h0 h1 => by
    have e : (sqs r 0).length = 0 := rfl
    rw [e] at h1
    omega⟩
  | i + 1 => by
    obtain ⟨h1, h2, h3⟩ := sqs_len hr i
    have e := sqs_succ r i
    by_cases c : (1 + (i : Int)) * (1 + (i : Int)) ≤ r
    · rw [e, if_pos c, List.length_append]
      refine ⟨by simp; omega, fun _ => by simp, fun z z0 z1 => ?_⟩
      have zi : z ≤ 1 + (i : Int) := by
        simp at z1
        omega
      exact Int.le_trans (Int.mul_le_mul zi zi (by omega) (by omega)) c
    · rw [e, if_neg c, List.append_nil]
      refine ⟨by omega, fun _ => ?_, h3⟩
      by_cases i0 : i = 0
      · exfalso
        apply c
        rw [i0]
        simp
        omega
      · exact h2 (by omega)
theorem int_at {ns : List Int} {i : Nat} {x : V} (h : (ns.map V.int)[i]? = some x) : ∃ n, ns[i]? = some n ∧ x = .int n := by
  rw [List.getElem?_map] at h
  cases e : ns[i]? with
  | none =>
    rw [e] at h
    cases h
  | some n =>
    rw [e] at h
    exact ⟨n, rfl, (Option.some.inj h).symm⟩
/-! ### texts of wraps and stacks -/
theorem nums_two (a : Wr) : a.nums.length ≤ 2 := by cases a <;> simp [Wr.nums]
theorem text_len {a : Wr} (h : a.ok) : a.text.length ≤ 200 := by
  have h1 := join_len (sep := (" " : Str)) (ys := a.kind :: a.nums.map fun i => (toString i : Str))
  have h2 := sum_short a.nums fun z hz => by have := nums_small h z hz; omega
  have h3 := kind_len a
  have h4 := nums_two a
  have h5 : (" " : Str).length = 1 := by decide
  unfold Wr.text
  simp only [List.map_cons, List.sum_cons, List.length_cons, List.length_map] at h1
  rw [h5] at h1
  omega
def baseText (b : Int) : Str := Str.empty ++ "base " ++ (toString b : Str)
def stkText (b : Int) (ws : List Wr) : Str := Txt.join "\n" (baseText b :: ws.map Wr.text)
theorem small_text {b : Int} (h0 : 0 ≤ b) (h1 : b ≤ 256) : (toString b : Str).length ≤ 4 := by
  have h := int_text_length_le10 (k := 3) (a := b) (by decide) (by omega)
  have e : (Str.ofString (toString b)).length = (toString b : String).length := PySem.ofString_length _
  show (Str.ofString (toString b)).length ≤ 4
  omega
theorem texts_sum : ∀ {ws : List Wr}, (∀ a ∈ ws, a.ok) → ((ws.map Wr.text).map (·.length)).sum ≤ 200 * ws.length
  | [], _ => by simp
  | a :: ws, h => by
    have h1 := texts_sum (ws := ws) fun x hx => h x (List.mem_cons_of_mem _ hx)
    have h2 := text_len (h a (List.mem_cons_self ..))
    simp only [List.map_cons, List.sum_cons, List.length_cons]
    omega
def spWStr (K : PySem.W.Frag) : Sp := fun vs H Q _ => ∃ (q : Addr) (a : Wr), vs = [.ref q] ∧ WrapAt K H q a ∧ a.ok ∧ Q (.str a.text) H
def spSStr (K : PySem.W.Frag) : Sp := fun vs H Q _ => ∃ (q : Addr) (b : Int) (ws : List Wr), vs = [.ref q] ∧ StkAt K H q b ws ∧ StkOk b ws ∧ ∀ H', Same H H' → Q (.str (stkText b ws)) H'
section
variable {P : Program} {w : World} {K : PySem.W.Frag} {mg : Str → Option Value} {base : Heap}
theorem ok_Wrap___str__ (T : Tx w K mg) : PromM P w K mg base CX0 1 "Wrap" "__str__" ["self"] (spWStr K) := by
  refine PromM.of T.cl_Wrap T.me_Wrap___str__ T.dm_Wrap___str__ sc_Wrap___str__ (fun vs H Q E h => ?_) (fun _ _ _ _ _ _ us hl => match us, hl with | [_], _ => rfl) (fun f cdv A outer s H vs Q E hr h => ?_)
  · obtain ⟨q, a, rfl, _⟩ := h
    rfl
  · obtain ⟨q, a, rfl, ⟨dx, p, h1, h2⟩, ok, k⟩ := h
    have tl := text_len ok
    refine ⟨_, (pss_one (ps_ret (pe_joined1 (pe_fmt (pe_fld (pv 0) rfl))))), ?_⟩
    exact ⟨_, rfl, q, _, dx, _, _, rfl, h1, T.cl_Wrap, T.na_Wrap_words, rfl, .inl ⟨_, rfl, by rw [sizeLine_eq]; omega, k⟩⟩
end
theorem same_before {q : Addr} {H H1 : Hp} (d : Same H H1) (hq : H1 q = none) : H q = none := by
  cases e : H q with
  | none => rfl
  | some o => rw [d _ _ e] at hq; cases hq
/-! ### steps of a road -/
inductive Stp where
  | push (a : Wr)
  | pop
  | bound (n : Int)
def stepOn (ws : List Wr) : Stp → List Wr
  | .push a => ws ++ [a]
  | .pop => ws.dropLast
  | .bound _ => ws
def stepOk (b : Int) (ws : List Wr) : Stp → Prop
  | .push a => StkOk b (ws ++ [a])
  | .pop => ws ≠ []
  | .bound n => 0 ≤ n ∧ n ≤ 10 ^ 60 - 1
/-- the wraps that are on -/
def onL (ss : List Stp) : List Wr := ss.foldl stepOn []
inductive RoadB (b : Int) : List Stp → Prop where
  | nil : RoadB b []
  | snoc {ss : List Stp} {s : Stp} (h : RoadB b ss) (ok : stepOk b (onL ss) s) : RoadB b (ss ++ [s])
theorem onL_snoc (ss : List Stp) (s : Stp) : onL (ss ++ [s]) = stepOn (onL ss) s := by
  unfold onL
  rw [List.foldl_append]
  rfl
theorem fine_init {ws : List Wr} (h : ∀ a ∈ ws, a.ok) : fineL ws.dropLast ≤ fineL ws := by
  rw [List.dropLast_eq_take]
  exact fine_take h _
theorem StkOk.init {b : Int} {ws : List Wr} (so : StkOk b ws) : StkOk b ws.dropLast :=
  ⟨so.b0, so.b1, fun a ha => so.ok a (by rw [List.dropLast_eq_take] at ha; exact List.mem_of_mem_take ha), by rw [List.length_dropLast]; have := so.len; omega, Int.le_trans (fine_init so.ok) so.fine⟩
theorem StkOk.step {b : Int} {ws : List Wr} {s : Stp} (so : StkOk b ws) (h : stepOk b ws s) : StkOk b (stepOn ws s) := by
  cases s with
  | push a => exact h
  | pop => exact so.init
  | bound n => exact so
theorem StkOk.nil {b : Int} (b0 : 2 ≤ b) (b1 : b ≤ 256) : StkOk b [] := ⟨b0, b1, fun _ h => absurd h (by simp), by simp, by decide⟩
theorem RoadB.stk {b : Int} {ss : List Stp} (b0 : 2 ≤ b) (b1 : b ≤ 256) (h : RoadB b ss) : StkOk b (onL ss) := by
  induction h with
  | nil => exact StkOk.nil b0 b1
  | snoc h ok ih =>
    rw [onL_snoc]
    exact ih.step ok
theorem RoadB.take {b : Int} {ss : List Stp} (h : RoadB b ss) : ∀ i : Nat, RoadB b (ss.take i) := by
  induction h with
  | nil => intro i; simp; exact .nil
  | @snoc ss s h ok ih =>
    intro i
    by_cases z : i ≤ ss.length
    · rw [List.take_append_of_le_length z]
      exact ih i
    · rw [List.take_of_length_le (by rw [List.length_append]; simp; omega)]
      exact .snoc h ok
theorem RoadB.at_ {b : Int} {ss : List Stp} (h : RoadB b ss) : ∀ {i : Nat} {s : Stp}, ss[i]? = some s → stepOk b (onL (ss.take i)) s := by
  induction h with
  | nil => intro i s e; simp at e
  | @snoc ss s' h ok ih =>
    intro i s e
    by_cases z : i < ss.length
    · rw [List.getElem?_append_left z] at e
      rw [List.take_append_of_le_length (by omega)]
      exact ih e
    · have hi : i = ss.length := by
        have := (List.getElem?_eq_some_iff.mp e).1
        rw [List.length_append] at this
        simp at this
        omega
      subst hi
      rw [List.getElem?_append_right (Nat.le_refl _), Nat.sub_self] at e
      have e2 : s' = s := by simpa using e
      rw [List.take_append_of_le_length (Nat.le_refl _), List.take_length, ← e2]
      exact ok
/-! sizes along a road -/
noncomputable def goT (b : Int) (z : Int × List Int) : Stp → Int × List Int
  | .push a => (a.gr b z.1, z.2 ++ [z.1])
  | .pop => (z.2.getLast?.getD 0, z.2.dropLast)
  | .bound _ => z
noncomputable def trS (b : Int) (ss : List Stp) (n : Int) : Int × List Int := ss.foldl (goT b) (n, [])
noncomputable def inner (b : Int) (ws : List Wr) (n : Int) : List Int := (List.range ws.length).map fun j => grS b (ws.take j) n
theorem grS_snoc {b : Int} {ws : List Wr} {a : Wr} {n : Int} : grS b (ws ++ [a]) n = a.gr b (grS b ws n) := by
  unfold grS
  rw [List.foldl_append]
  rfl
theorem inner_snoc {b : Int} {ws : List Wr} {a : Wr} {n : Int} : inner b (ws ++ [a]) n = inner b ws n ++ [grS b ws n] := by
  unfold inner
  rw [List.length_append, List.length_singleton, List.range_succ, List.map_append]
  congr 1
  · refine List.map_congr_left fun j hj => ?_
    have := List.mem_range.mp hj
    rw [List.take_append_of_le_length (by omega)]
  · simp
theorem trS_snoc {b : Int} {ss : List Stp} {s : Stp} {n : Int} : trS b (ss ++ [s]) n = goT b (trS b ss n) s := by
  unfold trS
  rw [List.foldl_append]
  rfl
theorem trS_on {b : Int} {ss : List Stp} (h : RoadB b ss) (n : Int) : trS b ss n = (grS b (onL ss) n, inner b (onL ss) n) := by
  induction h with
  | nil => rfl
  | @snoc ss s h ok ih =>
    rw [trS_snoc, onL_snoc, ih]
    cases s with
    | push a =>
      show (a.gr b (grS b (onL ss) n), inner b (onL ss) n ++ [grS b (onL ss) n]) = (grS b (onL ss ++ [a]) n, inner b (onL ss ++ [a]) n)
      rw [grS_snoc, inner_snoc]
    | pop =>
      have ok : onL ss ≠ [] := ok
      generalize onL ss = ws at ok ⊢
      show ((inner b ws n).getLast?.getD 0, (inner b ws n).dropLast) = (grS b ws.dropLast n, inner b ws.dropLast n)
      have e := List.dropLast_concat_getLast ok
      generalize ws.dropLast = us at e
      generalize ws.getLast ok = a at e
      rw [← e, inner_snoc]
      simp
    | bound m => rfl
/-- all bounds let it through -/
def fitsP (b : Int) (ss : List Stp) (n : Int) : Prop := ∀ (i : Nat) (m : Int), ss[i]? = some (.bound m) → grS b (onL (ss.take i)) n ≤ m
theorem fits_snoc {b : Int} {ss : List Stp} {s : Stp} {n : Int} : fitsP b (ss ++ [s]) n ↔ fitsP b ss n ∧ ∀ m, s = .bound m → grS b (onL ss) n ≤ m := by
  constructor
  · intro h
    refine ⟨fun i m e => ?_, fun m e => ?_⟩
    · have hi : i < ss.length := (List.getElem?_eq_some_iff.mp e).1
      have z := h i m (by rw [List.getElem?_append_left hi]; exact e)
      rw [List.take_append_of_le_length (by omega)] at z
      exact z
    · have z := h ss.length m (by rw [List.getElem?_append_right (Nat.le_refl _), Nat.sub_self, e]; rfl)
      rw [List.take_append_of_le_length (Nat.le_refl _), List.take_length] at z
      exact z
  · rintro ⟨h1, h2⟩ i m e
    by_cases z : i < ss.length
    · rw [List.getElem?_append_left z] at e
      rw [List.take_append_of_le_length (by omega)]
      exact h1 i m e
    · have hi : i = ss.length := by
        have := (List.getElem?_eq_some_iff.mp e).1
        rw [List.length_append] at this
        simp at this
        omega
      subst hi
      rw [List.getElem?_append_right (Nat.le_refl _), Nat.sub_self] at e
      rw [List.take_append_of_le_length (Nat.le_refl _), List.take_length]
      exact h2 m (by simpa using e)
theorem grS_mono {b : Int} (hb : 2 ≤ b) : ∀ (ws : List Wr), (∀ a ∈ ws, a.ok) → ∀ {n k : Int}, 0 ≤ n → n ≤ k → grS b ws n ≤ grS b ws k
  | [], _, n, k, _, h => h
  | a :: ws, ha, n, k, h0, h => grS_mono hb ws (fun x hx => ha x (List.mem_cons_of_mem _ hx)) (gr_le hb (ha a (List.mem_cons_self ..)) h0).1 (gr_mono hb (ha a (List.mem_cons_self ..)) h0 h)
theorem grS_ge {b : Int} (hb : 2 ≤ b) : ∀ (ws : List Wr), (∀ a ∈ ws, a.ok) → ∀ {n : Int}, 0 ≤ n → n ≤ grS b ws n
  | [], _, n, _ => Int.le_refl n
  | a :: ws, ha, n, h0 => Int.le_trans (gr_ge hb (ha a (List.mem_cons_self ..)) h0) (grS_ge hb ws (fun x hx => ha x (List.mem_cons_of_mem _ hx)) (gr_le hb (ha a (List.mem_cons_self ..)) h0).1)
/-- what is no list, and no such instance, stays -/
structure Keeps (K : PySem.W.Frag) (H H' : Hp) : Prop where
  tup : ∀ {q xs}, H q = some (.tup xs) → H' q = some (.tup xs)
  wrap : ∀ {q dx fs}, H q = some (.ins (He.ga K "Wrap") dx fs) → H' q = some (.ins (He.ga K "Wrap") dx fs)
  stack : ∀ {q dx fs}, H q = some (.ins (He.ga K "Stack") dx fs) → H' q = some (.ins (He.ga K "Stack") dx fs)
theorem Keeps.same {K : PySem.W.Frag} {H H' : Hp} (s : Same H H') : Keeps K H H' := ⟨fun h => s _ _ h, fun h => s _ _ h, fun h => s _ _ h⟩
theorem Keeps.lst {K : PySem.W.Frag} {H : Hp} {l : Addr} {ys zs : List V} (hl : H l = some (.lst ys)) : Keeps K H (upd H l (.lst zs)) :=
  ⟨fun {q xs} e => by rw [upd_ne (fun z => by rw [z, hl] at e; cases e)]; exact e, fun {q xs fs} e => by rw [upd_ne (fun z => by rw [z, hl] at e; cases e)]; exact e, fun {q xs fs} e => by rw [upd_ne (fun z => by rw [z, hl] at e; cases e)]; exact e⟩
theorem Keeps.trans {K : PySem.W.Frag} {H H1 H2 : Hp} (a : Keeps K H H1) (b : Keeps K H1 H2) : Keeps K H H2 := ⟨fun h => b.tup (a.tup h), fun h => b.wrap (a.wrap h), fun h => b.stack (a.stack h)⟩
/-- only the road at r changes -/
theorem Keeps.road {K : PySem.W.Frag} {H H' : Hp} {r dr : Addr} {fs : List (Str × V)} (n1 : He.ga K "Road" ≠ He.ga K "Wrap") (n2 : He.ga K "Road" ≠ He.ga K "Stack") (hr : H r = some (.ins (He.ga K "Road") dr fs)) (k : Kp r H H') : Keeps K H H' :=
  ⟨fun {q xs} e => k _ _ (fun z => by rw [z, hr] at e; cases e) e, fun {q xs fs} e => k _ _ (fun z => by rw [z, hr] at e; exact n1 (by injection e with e; injection e)) e, fun {q xs fs} e => k _ _ (fun z => by rw [z, hr] at e; exact n2 (by injection e with e; injection e)) e⟩
theorem WrapAt.keeps {K : PySem.W.Frag} {H H' : Hp} {q : Addr} {a : Wr} (h : WrapAt K H q a) (k : Keeps K H H') : WrapAt K H' q a := by
  obtain ⟨dx, p, h1, h2⟩ := h
  exact ⟨dx, p, k.wrap h1, k.tup h2⟩
theorem WrapsAt.keeps {K : PySem.W.Frag} {H H' : Hp} {xs : List V} {ws : List Wr} (h : WrapsAt K H xs ws) (k : Keeps K H H') : WrapsAt K H' xs ws := by
  induction h with
  | nil => exact .nil
  | cons h _ ih => exact .cons (h.keeps k) ih
theorem WrapsAt.dropLast {K : PySem.W.Frag} {H : Hp} {xs : List V} {ws : List Wr} (h : WrapsAt K H xs ws) : WrapsAt K H xs.dropLast ws.dropLast := by
  induction h with
  | nil => exact .nil
  | cons h r ih =>
    cases r with
    | nil => exact .nil
    | cons h2 r2 => exact .cons h ih
theorem StkAt.keeps {K : PySem.W.Frag} {H H' : Hp} {q : Addr} {b : Int} {ws : List Wr} (h : StkAt K H q b ws) (k : Keeps K H H') : StkAt K H' q b ws := by
  obtain ⟨dx, t, xs, h1, h2, h3⟩ := h
  exact ⟨dx, t, xs, k.stack h1, k.tup h2, h3.keeps k⟩
/-! ### roads -/
def StepAt (K : PySem.W.Frag) (H : Hp) (p : Addr) : Stp → Prop
  | .push a => ∃ q, H p = some (.tup [.str "push", .ref q]) ∧ WrapAt K H q a
  | .pop => H p = some (.tup [.str "pop"])
  | .bound n => H p = some (.tup [.str "bound", .int n])
theorem StepAt.keeps {K : PySem.W.Frag} {H H' : Hp} {p : Addr} {s : Stp} (h : StepAt K H p s) (k : Keeps K H H') : StepAt K H' p s := by
  cases s with
  | push a =>
    obtain ⟨q, h1, h2⟩ := h
    exact ⟨q, k.tup h1, h2.keeps k⟩
  | pop => exact k.tup h
  | bound n => exact k.tup h
inductive StepsAt (K : PySem.W.Frag) (H : Hp) : List V → List Stp → Prop where
  | nil : StepsAt K H [] []
  | cons {p : Addr} {s : Stp} {xs : List V} {ss : List Stp} (h : StepAt K H p s) (r : StepsAt K H xs ss) : StepsAt K H (.ref p :: xs) (s :: ss)
theorem StepsAt.len {K : PySem.W.Frag} {H : Hp} {xs : List V} {ss : List Stp} (h : StepsAt K H xs ss) : xs.length = ss.length := by
  induction h with
  | nil => rfl
  | cons _ _ ih => exact congrArg (· + 1) ih
theorem StepsAt.get {K : PySem.W.Frag} {H : Hp} {xs : List V} {ss : List Stp} (h : StepsAt K H xs ss) : ∀ {i : Nat} {x : V}, xs[i]? = some x → ∃ (p : Addr) (s : Stp), x = .ref p ∧ ss[i]? = some s ∧ StepAt K H p s := by
  induction h with
  | nil =>
    intro i x e
    simp at e
  | cons h _ ih =>
    intro i x e
    cases i with
    | zero =>
      simp at e
      exact ⟨_, _, e.symm, rfl, h⟩
    | succ i => exact ih (by simpa using e)
theorem StepsAt.keeps {K : PySem.W.Frag} {H H' : Hp} {xs : List V} {ss : List Stp} (h : StepsAt K H xs ss) (k : Keeps K H H') : StepsAt K H' xs ss := by
  induction h with
  | nil => exact .nil
  | cons h _ ih => exact .cons (h.keeps k) ih
theorem StepsAt.snoc {K : PySem.W.Frag} {H : Hp} {xs : List V} {ss : List Stp} {p : Addr} {s : Stp} (h : StepsAt K H xs ss) (hx : StepAt K H p s) : StepsAt K H (xs ++ [.ref p]) (ss ++ [s]) := by
  induction h with
  | nil => exact .cons hx .nil
  | cons h _ ih => exact .cons h ih
theorem StepsAt.take {K : PySem.W.Frag} {H : Hp} {xs : List V} {ss : List Stp} (h : StepsAt K H xs ss) : ∀ i : Nat, StepsAt K H (xs.take i) (ss.take i) := by
  induction h with
  | nil => intro i; simp; exact .nil
  | cons h _ ih =>
    intro i
    cases i with
    | zero => exact .nil
    | succ i => exact .cons h (ih i)
def roadFs (b : Int) (t q : Addr) : List (Str × V) := [("base", .int b), ("steps", .ref t), ("stack", .ref q), ("busy", .bl false)]
/-- a road stands there -/
structure RoadAt (K : PySem.W.Frag) (H : Hp) (r : Addr) (b : Int) (ss : List Stp) : Prop where
  at_ : ∃ dx t q xs, H r = some (.ins (He.ga K "Road") dx (roadFs b t q)) ∧ H t = some (.tup xs) ∧ StepsAt K H xs ss ∧ StkAt K H q b (onL ss)
  rb : RoadB b ss
  b0 : 2 ≤ b
  b1 : b ≤ 256
  len : ss.length ≤ 1000
theorem RoadAt.same {K : PySem.W.Frag} {H H' : Hp} {r : Addr} {b : Int} {ss : List Stp} (h : RoadAt K H r b ss) (s : Same H H') : RoadAt K H' r b ss := by
  obtain ⟨⟨dx, t, q, xs, h1, h2, h3, h4⟩, rest⟩ := h
  exact ⟨⟨dx, t, q, xs, s _ _ h1, s _ _ h2, h3.keeps (.same s), h4.same s⟩, by assumption, by assumption, by assumption, by assumption⟩
theorem RoadAt.kp {K : PySem.W.Frag} {H H' : Hp} {r l : Addr} {ys : List V} {b : Int} {ss : List Stp} (h : RoadAt K H r b ss) (hl : H l = some (.lst ys)) (k : Kp l H H') : RoadAt K H' r b ss := by
  obtain ⟨⟨dx, t, q, xs, h1, h2, h3, h4⟩, rest⟩ := h
  have ks : Keeps K H H' := ⟨fun {q xs} e => k _ _ (fun z => by rw [z, hl] at e; cases e) e, fun {q xs fs} e => k _ _ (fun z => by rw [z, hl] at e; cases e) e, fun {q xs fs} e => k _ _ (fun z => by rw [z, hl] at e; cases e) e⟩
  exact ⟨⟨dx, t, q, xs, k _ _ (fun z => by rw [z, hl] at h1; cases h1) h1, ks.tup h2, h3.keeps ks, h4.keeps ks⟩, by assumption, by assumption, by assumption, by assumption⟩
def spFree (K : PySem.W.Frag) : Sp := fun vs H Q _ => ∃ (r : Addr) (b : Int) (ss : List Stp), vs = [.ref r] ∧ RoadAt K H r b ss ∧ Q .non H
def spBehind (K : PySem.W.Frag) : Sp := fun vs H Q _ => ∃ (t : Addr) (xs : List V) (b : Int) (ss : List Stp), vs = [.int b, .ref t] ∧ H t = some (.tup xs) ∧ StepsAt K H xs ss ∧ RoadB b ss ∧ 2 ≤ b ∧ b ≤ 256 ∧ ∀ q H', H q = none → Same H H' → StkAt K H' q b (onL ss) → Q (.ref q) H'
def spCheckPush (K : PySem.W.Frag) : Sp := fun vs H Q _ => ∃ (q r : Addr) (b : Int) (ws : List Wr) (a : Wr), vs = [.ref q, .ref r] ∧ StkAt K H q b ws ∧ WrapAt K H r a ∧ StkOk b (ws ++ [a]) ∧ ∀ H', Same H H' → Q .non H'
def spAddStep (K : PySem.W.Frag) : Sp := fun vs H Q _ => ∃ (r t : Addr) (b : Int) (ss : List Stp) (s : Stp), vs = [.ref r, .ref t] ∧ RoadAt K H r b ss ∧ ss.length < 1000 ∧ StepAt K H t s ∧ stepOk b (onL ss) s ∧ ∀ H', Kp r H H' → RoadAt K H' r b (ss ++ [s]) → Q .non H'
def spRoad (K : PySem.W.Frag) : Sp := fun vs H Q _ => ∃ (b : Int), vs = [.int b] ∧ 2 ≤ b ∧ b ≤ 256 ∧ ∀ q H', H q = none → Same H H' → RoadAt K H' q b [] → Q (.ref q) H'
def spPush (K : PySem.W.Frag) : Sp := fun vs H Q _ => ∃ (r q : Addr) (b : Int) (ss : List Stp) (a : Wr), vs = [.ref r, .ref q] ∧ RoadAt K H r b ss ∧ ss.length < 1000 ∧ WrapAt K H q a ∧ StkOk b (onL ss ++ [a]) ∧ ∀ H', Kp r H H' → RoadAt K H' r b (ss ++ [.push a]) → Q .non H'
def spPop (K : PySem.W.Frag) : Sp := fun vs H Q _ => ∃ (r : Addr) (b : Int) (ss : List Stp), vs = [.ref r] ∧ RoadAt K H r b ss ∧ ss.length < 1000 ∧ onL ss ≠ [] ∧ ∀ H', Kp r H H' → RoadAt K H' r b (ss ++ [.pop]) → Q .non H'
def spBound (K : PySem.W.Frag) : Sp := fun vs H Q _ => ∃ (r : Addr) (b n : Int) (ss : List Stp), vs = [.ref r, .int n] ∧ RoadAt K H r b ss ∧ ss.length < 1000 ∧ 0 ≤ n ∧ n ≤ 10 ^ 60 - 1 ∧ ∀ H', Kp r H H' → RoadAt K H' r b (ss ++ [.bound n]) → Q .non H'
section
variable {P : Program} {w : World} {K : PySem.W.Frag} {mg : Str → Option Value} {base : Heap}
theorem ok_check_free (T : Tx w K mg) : Prom P w K mg base CX0 1 "check_free" s_check_free ["road"] (spFree K) := by
  refine Prom.of T.d_check_free sc_check_free (fun vs H Q E h => ?_) (fun _ _ _ _ _ _ us hl => match us, hl with | [_], _ => rfl) (fun f cdv A outer s H vs Q E hr h => ?_)
  · obtain ⟨r, b, ss, rfl, _⟩ := h
    rfl
  · obtain ⟨r, b, ss, rfl, hR, k⟩ := h
    obtain ⟨dx, t, q, xs, h1, h2, h3, h4⟩ := hR.at_
    refine ⟨_, (pss_one (ps_if (pt_val (pe_fld (pv 0) rfl)) (pss_one ps_never) pss_nil)), ?_⟩
    exact ⟨_, rfl, r, _, dx, _, _, rfl, h1, T.cl_Road, T.na_Road_busy, rfl, _, rfl, iteF k⟩
theorem ok_stack_behind (T : Tx w K mg) : Prom P w K mg base CX0 6 "stack_behind" s_stack_behind ["base", "steps"] (spBehind K) := by
  refine Prom.of T.d_stack_behind sc_stack_behind (fun vs H Q E h => ?_) (fun _ _ _ _ _ _ us hl => match us, hl with | [_, _], _ => rfl) (fun f cdv A outer s H vs Q E hr h => ?_)
  · obtain ⟨t, xs, b, ss, rfl, _⟩ := h
    rfl
  · obtain ⟨t, xs, b, ss, rfl, ht, hw, rb, b0, b1, k⟩ := h
    refine ⟨_, (pss_cons (ps_set (i := 2) sc_stack_behind.nd rfl (Or.inl rfl) (pe_lst pa_nil))
      (pss_cons (ps_for PassesOwn.never (by rfl) (pi_tup (pv 1)) (pg_name (i := 3) sc_stack_behind.nd rfl (Or.inl rfl)) (pss_one (ps_if (pt_cmpR op_eq (pe_ix ix_tup (pv 3) pe_int (fun _ _ => rfl)) pe_str (nomark _)) (pss_one (ps_expr (pe_bm PySem.F.plainAttrs_list PySem.F.slot_list_append PySem.F.type_list_append mt_append (pv 2) (pa_cons (pe_ix ix_tup (pv 3) pe_int (fun _ _ => rfl)) pa_nil)))) (pss_one (ps_if (pt_cmpR op_eq (pe_ix ix_tup (pv 3) pe_int (fun _ _ => rfl)) pe_str (nomark _)) (pss_one (ps_expr (pe_bm0 PySem.F.plainAttrs_list PySem.F.slot_list_pop PySem.F.type_list_pop mt_pop (pv 2)))) pss_nil)))))
      (pss_one (ps_ret (pe_newS (ok_Stack T) (hr.mono (by decide)) (by rfl) pass0 (pa_cons (pv 0) (StX.pa_star (pv 2) pa_nil))))))), ?_⟩
    refine ⟨Nat.zero_le _, fun l hl => ?_⟩
    refine ⟨_, rfl, t, rfl, ⟨_, SqT.of (up hl _ _ ht)⟩, for_it (walk_tup (K := K) (a := t) (xs := xs)) (fun i σ H' => Same H H' ∧ ∃ (ys : List V) (v : Option V), H' l = some (.lst ys) ∧ WrapsAt K H' ys (onL (ss.take i)) ∧ σ = [some (.int b), some (.ref t), some (.ref l), v]) ⟨up hl, [], none, upd_same, .nil, rfl⟩ (fun _ _ H' _ h => SqT.of (h.1 _ _ ht)) ?_ ?_⟩
    · rintro i x σ H1 H2 hi ⟨hs, ys, v, hl1, hy, rfl⟩ ⟨rfl, hx⟩
      obtain ⟨q, st, rfl, hst, hq⟩ := hw.get hx
      have et : ss.take (i + 1) = ss.take i ++ [st] := by
        rw [List.take_succ, hst]
        rfl
      have sok := rb.at_ hst
      have so := (rb.take i).stk b0 b1
      have so6 := so.len
      have hyl := hy.len
      rw [et, onL_snoc]
      have keep : ∀ zs : List V, Same H (upd H2 l (.lst zs)) := fun zs y o e => by
        rw [upd_ne (ne_of_none e hl)]
        exact hs _ _ e
      have hq := hq.keeps (.same hs)
      cases st with
      | push a =>
        obtain ⟨u, h1, h2⟩ := hq
        refine ⟨_, rfl, q, _, _, _, rfl, rfl, SqT.of h1, rfl, rfl, _, rfl, ifd_pos rfl ?_⟩
        refine ⟨_, rfl, .inl ⟨rfl, _, SqL.of hl1⟩, _, rfl, q, _, _, _, rfl, rfl, SqT.of h1, rfl, l, _, _, rfl, rfl, hl1, ?_, ?_⟩
        · rw [sizeLine_eq]
          omega
        exact ⟨keep _, _, _, upd_same, (hy.snoc h2).keeps (.lst hl1), rfl⟩
      | pop =>
        have h1 : H2 q = _ := hq
        have ne : onL (ss.take i) ≠ [] := sok
        have hne : 0 < ys.length := by
          have : (onL (ss.take i)).length ≠ 0 := fun y => ne (List.eq_nil_of_length_eq_zero y)
          omega
        refine ⟨_, rfl, q, _, _, _, rfl, rfl, SqT.of h1, rfl, rfl, _, rfl, ifs_neg (show ("pop" : Str) ≠ "push" by decide) ?_⟩
        refine ⟨_, rfl, q, _, _, _, rfl, rfl, SqT.of h1, rfl, rfl, _, rfl, ifd_pos rfl ?_⟩
        exact ⟨_, rfl, .inl ⟨rfl, _, SqL.of hl1⟩, l, _, ys[ys.length - 1], rfl, rfl, hl1, List.getElem?_eq_getElem (by omega), keep _, _, _, upd_same, hy.dropLast.keeps (.lst hl1), rfl⟩
      | bound n =>
        have h1 : H2 q = _ := hq
        refine ⟨_, rfl, q, _, _, _, rfl, rfl, SqT.of h1, rfl, rfl, _, rfl, ifs_neg (show ("bound" : Str) ≠ "push" by decide) ?_⟩
        refine ⟨_, rfl, q, _, _, _, rfl, rfl, SqT.of h1, rfl, rfl, _, rfl, ifs_neg (show ("bound" : Str) ≠ "pop" by decide) ?_⟩
        exact ⟨hs, _, _, hl1, hy, rfl⟩
    · rintro σ H' ⟨hs, ys, v, hl1, hy, rfl⟩
      rw [hw.len, List.take_length] at hy
      refine ⟨_, rfl, _, rfl, l, ys, rfl, .inr (SqL.of hl1), b, ys ++ [], onL ss, rfl, rb.stk b0 b1, by rw [List.append_nil]; exact hy, fun q H2 nq s2 st => ?_⟩
      exact k q H2 (same_before hs nq) (hs.trans s2) st
theorem ok_check_push (T : Tx w K mg) : Prom P w K mg base CX0 3 "check_push" s_check_push ["stack", "wrap"] (spCheckPush K) := by
  refine Prom.of T.d_check_push sc_check_push (fun vs H Q E h => ?_) (fun _ _ _ _ _ _ us hl => match us, hl with | [_, _], _ => rfl) (fun f cdv A outer s H vs Q E hr h => ?_)
  · obtain ⟨q, r, b, ws, a, rfl, _⟩ := h
    rfl
  · obtain ⟨q, r, b, ws, a, rfl, hS, hW, so, k⟩ := h
    obtain ⟨dx, t, xs, hq, ht, hw⟩ := id hS
    have l6 := so.len
    rw [List.length_append] at l6
    have l6 : ws.length + 1 ≤ 6 := l6
    have f6 := so.fine
    refine ⟨_, (pss_cons (ps_expr (pe_callP (ok_check_wrap T) (hr.mono (by decide)) (by rfl) pass0 (pa_cons (pv 1) pa_nil)))
      (pss_cons (ps_if (pt_cmp (pc_eqI (pe_callB (cr_lenO (ok_Stack___len__ T) (hr.mono (by decide)) pass0) (by rfl) T.b_len (by decide +kernel) (pa_cons (pv 0) pa_nil)) (pe_gint T.c_MOST_WRAPS))) (pss_one ps_never) pss_nil)
      (pss_one (ps_if (pt_cmp (pc_gt (pe_callP (ok_fineness_of T) (hr.mono (by decide)) (by rfl) pass0 (pa_cons (pe_lst (StX.pa_star (pe_fld (pv 0) rfl) (pa_cons (pv 1) pa_nil))) pa_nil)) (pe_gint T.c_MOST_FINENESS))) (pss_one ps_never) pss_nil)))), ?_⟩
    refine ⟨_, rfl, r, a, rfl, hW, ?_⟩
    refine ⟨_, rfl, q, dx, _, rfl, hq, q, b, ws, rfl, hS, _, rfl, by omega, by omega, _, _, rfl, rfl, _, rfl, ifd (fun c => absurd c (by show ¬ (ws.length : Int) = 6; omega)) (fun _ => ?_)⟩
    refine ⟨_, rfl, q, _, dx, _, _, rfl, hq, T.cl_Stack, T.na_Stack_wraps, rfl, t, xs, rfl, .inl (SqT.of ht), _, rfl, ?_, fun l hl => ?_⟩
    · rw [List.length_append, hw.len, sizeLine_eq]
      simp
      omega
    have s1 := up (o := .lst (xs ++ [.ref r])) hl
    refine ⟨l, xs ++ [V.ref r], ws ++ [a], rfl, .inl (SqL.of upd_same), (hw.same s1).snoc (hW.same s1), so.ok, fun H2 s2 => ⟨_, _, rfl, rfl, _, rfl, ifd (fun c => absurd c (by show ¬ fineL (ws ++ [a]) > 120; omega)) (fun _ => ?_)⟩⟩
    exact k _ (s1.trans s2)
end
section
variable {P : Program} {w : World} {K : PySem.W.Frag} {mg : Str → Option Value} {base : Heap}
theorem ok_add_step (T : Tx w K mg) : Prom P w K mg base CX0 7 "add_step" s_add_step ["road", "step"] (spAddStep K) := by
  refine Prom.of T.d_add_step sc_add_step (fun vs H Q E h => ?_) (fun _ _ _ _ _ _ us hl => match us, hl with | [_, _], _ => rfl) (fun f cdv A outer s H vs Q E hr h => ?_)
  · obtain ⟨r, t, b, ss, st, rfl, _⟩ := h
    rfl
  · obtain ⟨r, t, b, ss, st, rfl, hR, hlen, hst, sok, k⟩ := h
    obtain ⟨dx, t0, q0, xs, h1, h2, h3, h4⟩ := hR.at_
    refine ⟨_, (pss_cons (ps_if (pt_cmpR op_eq (pe_ix ix_tup (pv 1) pe_int (fun _ _ => rfl)) pe_str (nomark _)) (pss_one (ps_expr (pe_callP (ok_check_push T) (hr.mono (by decide)) (by rfl) pass0 (pa_cons (pe_fld (pv 0) rfl) (pa_cons (pe_ix ix_tup (pv 1) pe_int (fun _ _ => rfl)) pa_nil))))) (pss_one (ps_if (pt_cmpR op_eq (pe_ix ix_tup (pv 1) pe_int (fun _ _ => rfl)) pe_str (nomark _)) (pss_one (ps_expr (pe_callP (ok_check_length T) (hr.mono (by decide)) (by rfl) pass0 (pa_cons (pe_ix ix_tup (pv 1) pe_int (fun _ _ => rfl)) pa_nil)))) (pss_one (ps_if (pt_cmp (pc_eqI (pe_callB (cr_lenO (ok_Stack___len__ T) (hr.mono (by decide)) pass0) (by rfl) T.b_len (by decide +kernel) (pa_cons (pe_fld (pv 0) rfl) pa_nil)) pe_int)) (pss_one ps_never) pss_nil)))))
      (pss_cons (ps_fld (pv 0) (pe_tup (StX.pa_star (pe_fld (pv 0) rfl) (pa_cons (pv 1) pa_nil))) rfl)
      (pss_one (ps_fld (pv 0) (pe_callP (ok_stack_behind T) (hr.mono (by decide)) (by rfl) pass0 (pa_cons (pe_fld (pv 0) rfl) (pa_cons (pe_fld (pv 0) rfl) pa_nil))) rfl)))), ?_⟩
    have s0 := Same.refl H
    cases st with
    | push a =>
      obtain ⟨u, g1, g2⟩ := id hst
      refine ⟨_, rfl, t, _, _, _, rfl, rfl, SqT.of g1, rfl, rfl, _, rfl, ifd_pos rfl ?_⟩
      refine ⟨_, rfl, r, _, dx, _, _, rfl, h1, T.cl_Road, T.na_Road_stack, rfl, _, rfl, t, _, _, _, rfl, rfl, SqT.of g1, rfl, q0, u, b, onL ss, a, rfl, h4, g2, sok, fun H1 s1 => ?_⟩
      refine ⟨_, rfl, r, _, dx, _, _, rfl, s1 _ _ h1, T.cl_Road, T.na_Road_steps, rfl, t0, xs, rfl, .inl (SqT.of (s1 _ _ h2)), _, rfl, ?_, fun t2 ht2 => ?_⟩
      · rw [List.length_append, h3.len, sizeLine_eq]
        simp
        omega
      have s2 := s1.trans (up (o := .tup (xs ++ ([V.ref t] ++ []))) ht2)
      refine ⟨_, rfl, r, _, dx, _, rfl, s2 _ _ h1, T.cl_Road, T.na_Road_steps, (show (4 : Nat) < 1000 by decide), ?_⟩
      have nr2 : t2 ≠ r := fun z => by
        have := s1 _ _ h1
        rw [← z, ht2] at this
        cases this
      have g1 : ∀ o, (upd (upd H1 t2 (.tup (xs ++ ([V.ref t] ++ [])))) r o) t2 = some (.tup (xs ++ [V.ref t])) := fun o => by
        rw [upd_ne nr2, upd_same, List.append_nil]
      have kp1 : Kp r H (upd (upd H1 t2 (.tup (xs ++ ([V.ref t] ++ [])))) r (.ins (He.ga K "Road") dx (roadFs b t2 q0))) := Kp.set (fun y o n e => s2 _ _ e)
      have ks1 := Keeps.road T.ne_Road_Wrap T.ne_Road_Stack h1 kp1
      have st1 : StepsAt K (upd (upd H1 t2 (.tup (xs ++ ([V.ref t] ++ [])))) r (.ins (He.ga K "Road") dx (roadFs b t2 q0))) (xs ++ [V.ref t]) (ss ++ [.push a]) := (h3.snoc hst).keeps ks1
      have rb2 : RoadB b (ss ++ [.push a]) := .snoc hR.rb sok
      refine ⟨_, rfl, r, _, dx, _, _, rfl, upd_same, T.cl_Road, T.na_Road_base, rfl, _, rfl, r, _, dx, _, _, rfl, upd_same, T.cl_Road, T.na_Road_steps, rfl, t2, _, b, _, rfl, g1 _, st1, rb2, hR.b0, hR.b1, fun q3 H3 nq3 s3 stk3 => ?_⟩
      refine ⟨_, rfl, r, _, dx, _, rfl, s3 _ _ upd_same, T.cl_Road, T.na_Road_stack, (show (4 : Nat) < 1000 by decide), ?_⟩
      have kp2 : Kp r H (upd H3 r (.ins (He.ga K "Road") dx (roadFs b t2 q3))) := Kp.set (fun y o n e => s3 _ _ (kp1 y o n e))
      have ks2 : Keeps K H3 (upd H3 r (.ins (He.ga K "Road") dx (roadFs b t2 q3))) := Keeps.road T.ne_Road_Wrap T.ne_Road_Stack (s3 _ _ upd_same) (Kp.set (Kp.refl r H3))
      refine k _ kp2 ⟨⟨dx, t2, q3, _, upd_same, ks2.tup (s3 _ _ (g1 _)), (st1.keeps (.same s3)).keeps ks2, stk3.keeps ks2⟩, rb2, hR.b0, hR.b1, by rw [List.length_append]; simp; omega⟩
    | pop =>
      have g1 : H t = _ := hst
      have ne : onL ss ≠ [] := sok
      have hn : (onL ss).length ≠ 0 := fun y => ne (List.eq_nil_of_length_eq_zero y)
      have so := hR.rb.stk hR.b0 hR.b1
      have so6 := so.len
      obtain ⟨dz, tz, xz, z1, z2, z3⟩ := id h4
      refine ⟨_, rfl, t, _, _, _, rfl, rfl, SqT.of g1, rfl, rfl, _, rfl, ifs_neg (show ("pop" : Str) ≠ "push" by decide) ?_⟩
      refine ⟨_, rfl, t, _, _, _, rfl, rfl, SqT.of g1, rfl, rfl, _, rfl, ifs_neg (show ("pop" : Str) ≠ "bound" by decide) ?_⟩
      refine ⟨_, rfl, r, _, dx, _, _, rfl, h1, T.cl_Road, T.na_Road_stack, rfl, q0, dz, _, rfl, z1, q0, b, onL ss, rfl, h4, _, rfl, by omega, by omega, _, _, rfl, rfl, _, rfl, ifd (fun c => absurd c (by show ¬ ((onL ss).length : Int) = 0; omega)) (fun _ => ?_)⟩
      refine ⟨_, rfl, r, _, dx, _, _, rfl, s0 _ _ h1, T.cl_Road, T.na_Road_steps, rfl, t0, xs, rfl, .inl (SqT.of (s0 _ _ h2)), _, rfl, ?_, fun t2 ht2 => ?_⟩
      · rw [List.length_append, h3.len, sizeLine_eq]
        simp
        omega
      have s2 := s0.trans (up (o := .tup (xs ++ ([V.ref t] ++ []))) ht2)
      refine ⟨_, rfl, r, _, dx, _, rfl, s2 _ _ h1, T.cl_Road, T.na_Road_steps, (show (4 : Nat) < 1000 by decide), ?_⟩
      have nr2 : t2 ≠ r := fun z => by
        have := s0 _ _ h1
        rw [← z, ht2] at this
        cases this
      have g1 : ∀ o, (upd (upd H t2 (.tup (xs ++ ([V.ref t] ++ [])))) r o) t2 = some (.tup (xs ++ [V.ref t])) := fun o => by
        rw [upd_ne nr2, upd_same, List.append_nil]
      have kp1 : Kp r H (upd (upd H t2 (.tup (xs ++ ([V.ref t] ++ [])))) r (.ins (He.ga K "Road") dx (roadFs b t2 q0))) := Kp.set (fun y o n e => s2 _ _ e)
      have ks1 := Keeps.road T.ne_Road_Wrap T.ne_Road_Stack h1 kp1
      have st1 : StepsAt K (upd (upd H t2 (.tup (xs ++ ([V.ref t] ++ [])))) r (.ins (He.ga K "Road") dx (roadFs b t2 q0))) (xs ++ [V.ref t]) (ss ++ [.pop]) := (h3.snoc hst).keeps ks1
      have rb2 : RoadB b (ss ++ [.pop]) := .snoc hR.rb sok
      refine ⟨_, rfl, r, _, dx, _, _, rfl, upd_same, T.cl_Road, T.na_Road_base, rfl, _, rfl, r, _, dx, _, _, rfl, upd_same, T.cl_Road, T.na_Road_steps, rfl, t2, _, b, _, rfl, g1 _, st1, rb2, hR.b0, hR.b1, fun q3 H3 nq3 s3 stk3 => ?_⟩
      refine ⟨_, rfl, r, _, dx, _, rfl, s3 _ _ upd_same, T.cl_Road, T.na_Road_stack, (show (4 : Nat) < 1000 by decide), ?_⟩
      have kp2 : Kp r H (upd H3 r (.ins (He.ga K "Road") dx (roadFs b t2 q3))) := Kp.set (fun y o n e => s3 _ _ (kp1 y o n e))
      have ks2 : Keeps K H3 (upd H3 r (.ins (He.ga K "Road") dx (roadFs b t2 q3))) := Keeps.road T.ne_Road_Wrap T.ne_Road_Stack (s3 _ _ upd_same) (Kp.set (Kp.refl r H3))
      refine k _ kp2 ⟨⟨dx, t2, q3, _, upd_same, ks2.tup (s3 _ _ (g1 _)), (st1.keeps (.same s3)).keeps ks2, stk3.keeps ks2⟩, rb2, hR.b0, hR.b1, by rw [List.length_append]; simp; omega⟩
    | bound n =>
      have g1 : H t = _ := hst
      have sok2 : 0 ≤ n ∧ n ≤ 10 ^ 60 - 1 := sok
      refine ⟨_, rfl, t, _, _, _, rfl, rfl, SqT.of g1, rfl, rfl, _, rfl, ifs_neg (show ("bound" : Str) ≠ "push" by decide) ?_⟩
      refine ⟨_, rfl, t, _, _, _, rfl, rfl, SqT.of g1, rfl, rfl, _, rfl, ifd_pos rfl ?_⟩
      refine ⟨_, rfl, t, _, _, _, rfl, rfl, SqT.of g1, rfl, n, rfl, sok2.1, sok2.2, ?_⟩
      refine ⟨_, rfl, r, _, dx, _, _, rfl, s0 _ _ h1, T.cl_Road, T.na_Road_steps, rfl, t0, xs, rfl, .inl (SqT.of (s0 _ _ h2)), _, rfl, ?_, fun t2 ht2 => ?_⟩
      · rw [List.length_append, h3.len, sizeLine_eq]
        simp
        omega
      have s2 := s0.trans (up (o := .tup (xs ++ ([V.ref t] ++ []))) ht2)
      refine ⟨_, rfl, r, _, dx, _, rfl, s2 _ _ h1, T.cl_Road, T.na_Road_steps, (show (4 : Nat) < 1000 by decide), ?_⟩
      have nr2 : t2 ≠ r := fun z => by
        have := s0 _ _ h1
        rw [← z, ht2] at this
        cases this
      have g1 : ∀ o, (upd (upd H t2 (.tup (xs ++ ([V.ref t] ++ [])))) r o) t2 = some (.tup (xs ++ [V.ref t])) := fun o => by
        rw [upd_ne nr2, upd_same, List.append_nil]
      have kp1 : Kp r H (upd (upd H t2 (.tup (xs ++ ([V.ref t] ++ [])))) r (.ins (He.ga K "Road") dx (roadFs b t2 q0))) := Kp.set (fun y o n e => s2 _ _ e)
      have ks1 := Keeps.road T.ne_Road_Wrap T.ne_Road_Stack h1 kp1
      have st1 : StepsAt K (upd (upd H t2 (.tup (xs ++ ([V.ref t] ++ [])))) r (.ins (He.ga K "Road") dx (roadFs b t2 q0))) (xs ++ [V.ref t]) (ss ++ [.bound n]) := (h3.snoc hst).keeps ks1
      have rb2 : RoadB b (ss ++ [.bound n]) := .snoc hR.rb sok
      refine ⟨_, rfl, r, _, dx, _, _, rfl, upd_same, T.cl_Road, T.na_Road_base, rfl, _, rfl, r, _, dx, _, _, rfl, upd_same, T.cl_Road, T.na_Road_steps, rfl, t2, _, b, _, rfl, g1 _, st1, rb2, hR.b0, hR.b1, fun q3 H3 nq3 s3 stk3 => ?_⟩
      refine ⟨_, rfl, r, _, dx, _, rfl, s3 _ _ upd_same, T.cl_Road, T.na_Road_stack, (show (4 : Nat) < 1000 by decide), ?_⟩
      have kp2 : Kp r H (upd H3 r (.ins (He.ga K "Road") dx (roadFs b t2 q3))) := Kp.set (fun y o n e => s3 _ _ (kp1 y o n e))
      have ks2 : Keeps K H3 (upd H3 r (.ins (He.ga K "Road") dx (roadFs b t2 q3))) := Keeps.road T.ne_Road_Wrap T.ne_Road_Stack (s3 _ _ upd_same) (Kp.set (Kp.refl r H3))
      refine k _ kp2 ⟨⟨dx, t2, q3, _, upd_same, ks2.tup (s3 _ _ (g1 _)), (st1.keeps (.same s3)).keeps ks2, stk3.keeps ks2⟩, rb2, hR.b0, hR.b1, by rw [List.length_append]; simp; omega⟩
def spRoad0 (K : PySem.W.Frag) : Sp := fun vs H Q _ => ∃ (x dx : Addr) (b : Int), vs = [.ref x, .int b] ∧ 2 ≤ b ∧ b ≤ 256 ∧ H x = some (.ins (He.ga K "Road") dx []) ∧
  ∀ H' t q, Kp x H H' → H' x = some (.ins (He.ga K "Road") dx (roadFs b t q)) → H' t = some (.tup []) → StkAt K H' q b [] → Q .non H'
theorem ok_Road (T : Tx w K mg) : PromC P w K mg base CX0 6 "Road" (spRoad K) := by
  refine PromC.plain (sp0 := spRoad0 K) T.mk_Road T.k_Road T.dm_Road___init__ sc_Road___init__ (fun vs H Q E h => ?_) (fun _ _ _ _ _ _ us hl => match us, hl with | [_, _], _ => rfl) (fun f cdv A outer s H vs Q E hr h => ?_) (fun vs H Q E h x dx hx hdx ne => ?_)
  · obtain ⟨x, dx, b, rfl, _⟩ := h
    rfl
  · obtain ⟨x, dx, b, rfl, b0, b1, hx, k⟩ := h
    refine ⟨_, (pss_cons (ps_expr (pe_callP (ok_check_base T) (hr.mono (by decide)) (by rfl) pass0 (pa_cons (pv 1) pa_nil)))
      (pss_cons (ps_fld (pv 0) (pv 1) rfl)
      (pss_cons (ps_fld (pv 0) (pe_tup pa_nil) rfl)
      (pss_cons (ps_fld (pv 0) (pe_newP (ok_Stack T) (hr.mono (by decide)) (by rfl) pass0 (pa_cons (pv 1) pa_nil)) rfl)
      (pss_one (ps_fld (pv 0) pe_bl rfl)))))), ?_⟩
    refine ⟨_, rfl, b, rfl, b0, b1, ?_⟩
    refine ⟨_, rfl, _, rfl, x, _, dx, _, rfl, hx, T.cl_Road, T.na_Road_base, (show (0 : Nat) < 1000 by decide), ?_⟩
    refine ⟨Nat.zero_le _, fun t ht => ?_⟩
    have nt : t ≠ x := fun z => by
      rw [z, upd_same] at ht
      cases ht
    have hx1 : (upd (upd H x (.ins (He.ga K "Road") dx [("base", .int b)])) t (.tup [])) x = some (.ins (He.ga K "Road") dx [("base", .int b)]) := by
      rw [upd_ne (Ne.symm nt)]
      exact upd_same
    refine ⟨_, rfl, x, _, dx, _, rfl, hx1, T.cl_Road, T.na_Road_steps, (show (1 : Nat) < 1000 by decide), ?_⟩
    have kp1 : ∀ o1 o2, Kp x H (upd (upd (upd H x o1) t (.tup [])) x o2) := fun o1 o2 => Kp.set (Kp.new (Kp.set (Kp.refl x H)) (by rw [upd_ne nt] at ht; rw [upd_ne nt]; exact ht))
    refine ⟨_, rfl, b, [], [], rfl, StkOk.nil b0 b1, .nil, fun q H3 nq s3 st => ?_⟩
    refine ⟨_, rfl, x, _, dx, _, rfl, s3 _ _ upd_same, T.cl_Road, T.na_Road_stack, (show (2 : Nat) < 1000 by decide), ?_⟩
    refine ⟨_, rfl, x, _, dx, _, rfl, upd_same, T.cl_Road, T.na_Road_busy, (show (3 : Nat) < 1000 by decide), ?_⟩
    have ks : Keeps K H3 (upd (upd H3 x (.ins (He.ga K "Road") dx [("base", .int b), ("steps", .ref t), ("stack", .ref q)])) x (.ins (He.ga K "Road") dx (roadFs b t q))) := Keeps.road T.ne_Road_Wrap T.ne_Road_Stack (s3 _ _ upd_same) (Kp.set (Kp.set (Kp.refl x H3)))
    refine k _ t q (Kp.set (Kp.set fun y o n e => s3 _ _ (kp1 _ _ y o n e))) upd_same (ks.tup (s3 _ _ (by rw [upd_ne nt]; exact upd_same))) (st.keeps ks)
  · obtain ⟨b, rfl, b0, b1, k⟩ := h
    have same : Same H (upd (upd H dx (.own x)) x (.ins (He.ga K "Road") dx [])) := fun z o e => by
      rw [upd_ne (ne_of_none e hx), upd_ne (ne_of_none e hdx)]
      exact e
    refine ⟨x, dx, b, rfl, b0, b1, upd_same, fun H' t q kp hx' ht hq => ⟨rfl, ?_⟩⟩
    exact k x H' hx (fun z o e => kp _ _ (ne_of_none e hx) (same _ _ e)) ⟨⟨dx, t, q, [], hx', ht, .nil, hq⟩, .nil, b0, b1, by simp⟩
theorem ok_Road_push (T : Tx w K mg) : PromM P w K mg base CX0 8 "Road" "push" ["self", "wrap"] (spPush K) := by
  refine PromM.of T.cl_Road T.me_Road_push T.dm_Road_push sc_Road_push (fun vs H Q E h => ?_) (fun _ _ _ _ _ _ us hl => match us, hl with | [_, _], _ => rfl) (fun f cdv A outer s H vs Q E hr h => ?_)
  · obtain ⟨r, q, b, ss, a, rfl, _⟩ := h
    rfl
  · obtain ⟨r, q, b, ss, a, rfl, hR, hl, hW, so, k⟩ := h
    refine ⟨_, (pss_cons (ps_expr (pe_callP (ok_check_free T) (hr.mono (by decide)) (by rfl) pass0 (pa_cons (pv 0) pa_nil)))
      (pss_one (ps_expr (pe_callP (ok_add_step T) (hr.mono (by decide)) (by rfl) pass0 (pa_cons (pv 0) (pa_cons (pe_tup (pa_cons pe_str (pa_cons (pv 1) pa_nil))) pa_nil)))))), ?_⟩
    refine ⟨_, rfl, r, b, ss, rfl, hR, _, rfl, _, rfl, (by show 2 ≤ sizeLine; decide), fun t ht => ?_⟩
    have s1 := up (o := .tup [.str "push", .ref q]) ht
    exact ⟨r, t, b, ss, .push a, rfl, hR.same s1, hl, ⟨q, upd_same, hW.same s1⟩, so, fun H' kp hR' => k _ (fun y o n e => kp y o n (s1 _ _ e)) hR'⟩
theorem ok_Road_pop (T : Tx w K mg) : PromM P w K mg base CX0 8 "Road" "pop" ["self"] (spPop K) := by
  refine PromM.of T.cl_Road T.me_Road_pop T.dm_Road_pop sc_Road_pop (fun vs H Q E h => ?_) (fun _ _ _ _ _ _ us hl => match us, hl with | [_], _ => rfl) (fun f cdv A outer s H vs Q E hr h => ?_)
  · obtain ⟨r, b, ss, rfl, _⟩ := h
    rfl
  · obtain ⟨r, b, ss, rfl, hR, hl, ne, k⟩ := h
    refine ⟨_, (pss_cons (ps_expr (pe_callP (ok_check_free T) (hr.mono (by decide)) (by rfl) pass0 (pa_cons (pv 0) pa_nil)))
      (pss_one (ps_expr (pe_callP (ok_add_step T) (hr.mono (by decide)) (by rfl) pass0 (pa_cons (pv 0) (pa_cons (pe_tup (pa_cons pe_str pa_nil)) pa_nil)))))), ?_⟩
    refine ⟨_, rfl, r, b, ss, rfl, hR, _, rfl, (by show 1 ≤ sizeLine; decide), fun t ht => ?_⟩
    have s1 := up (o := .tup [.str "pop"]) ht
    exact ⟨r, t, b, ss, .pop, rfl, hR.same s1, hl, upd_same, ne, fun H' kp hR' => k _ (fun y o n e => kp y o n (s1 _ _ e)) hR'⟩
theorem ok_Road_bound (T : Tx w K mg) : PromM P w K mg base CX0 8 "Road" "bound" ["self", "bound"] (spBound K) := by
  refine PromM.of T.cl_Road T.me_Road_bound T.dm_Road_bound sc_Road_bound (fun vs H Q E h => ?_) (fun _ _ _ _ _ _ us hl => match us, hl with | [_, _], _ => rfl) (fun f cdv A outer s H vs Q E hr h => ?_)
  · obtain ⟨r, b, n, ss, rfl, _⟩ := h
    rfl
  · obtain ⟨r, b, n, ss, rfl, hR, hl, n0, n1, k⟩ := h
    refine ⟨_, (pss_cons (ps_expr (pe_callP (ok_check_free T) (hr.mono (by decide)) (by rfl) pass0 (pa_cons (pv 0) pa_nil)))
      (pss_one (ps_expr (pe_callP (ok_add_step T) (hr.mono (by decide)) (by rfl) pass0 (pa_cons (pv 0) (pa_cons (pe_tup (pa_cons pe_str (pa_cons (pv 1) pa_nil))) pa_nil)))))), ?_⟩
    refine ⟨_, rfl, r, b, ss, rfl, hR, _, rfl, _, rfl, (by show 2 ≤ sizeLine; decide), fun t ht => ?_⟩
    have s1 := up (o := .tup [.str "bound", .int n]) ht
    exact ⟨r, t, b, ss, .bound n, rfl, hR.same s1, hl, upd_same, ⟨n0, n1⟩, fun H' kp hR' => k _ (fun y o n e => kp y o n (s1 _ _ e)) hR'⟩
end
/-! ### the greatest length within a bound -/
def IsG (b : Int) (ws : List Wr) (m k : Int) : Prop := -1 ≤ k ∧ k ≤ m ∧ ∀ n, 0 ≤ n → (grS b ws n ≤ m ↔ n ≤ k)
theorem isG_eq {b : Int} {ws : List Wr} {m k l : Int} (h : IsG b ws m k) (g : IsG b ws m l) : k = l := by
  obtain ⟨h0, h1, h2⟩ := h
  obtain ⟨g0, g1, g2⟩ := g
  by_cases z : k < l
  · have := (h2 l (by omega)).mp ((g2 l (by omega)).mpr (Int.le_refl l))
    omega
  · by_cases y : l < k
    · have := (g2 k (by omega)).mp ((h2 k (by omega)).mpr (Int.le_refl k))
      omega
    · omega
open Classical in
noncomputable def gwI (b : Int) (ws : List Wr) (m : Int) : Int := if h : ∃ k, IsG b ws m k then choose h else 0
theorem gwI_eq {b : Int} {ws : List Wr} {m k : Int} (h : IsG b ws m k) : gwI b ws m = k := by
  have e : ∃ k, IsG b ws m k := ⟨k, h⟩
  unfold gwI
  rw [dif_pos e]
  exact isG_eq (Classical.choose_spec e) h
noncomputable def gwV (b : Int) (ws : List Wr) (m : Int) : V := if gwI b ws m < 0 then .non else .int (gwI b ws m)
def spWithin (K : PySem.W.Frag) : Sp := fun vs H Q _ => ∃ (q : Addr) (b m : Int) (ws : List Wr), vs = [.ref q, .int m] ∧ StkAt K H q b ws ∧ StkOk b ws ∧ 0 ≤ m ∧ m ≤ 10 ^ 60 - 1 ∧ (IsG b ws m (gwI b ws m) → Q (gwV b ws m) H)
section
variable {P : Program} {w : World} {K : PySem.W.Frag} {mg : Str → Option Value} {base : Heap}
theorem ok_greatest_within (T : Tx w K mg) : Prom P w K mg base CX0 5 "greatest_within" s_greatest_within ["stack", "bound"] (spWithin K) := by
  refine Prom.of T.d_greatest_within sc_greatest_within (fun vs H Q E h => ?_) (fun _ _ _ _ _ _ us hl => match us, hl with | [_, _], _ => rfl) (fun f cdv A outer s H vs Q E hr h => ?_)
  · obtain ⟨q, b, m, ws, rfl, _⟩ := h
    rfl
  · obtain ⟨q, b, m, ws, rfl, hS, so, m0, m1, k⟩ := h
    obtain ⟨dx, t, xs, g1, g2, g3⟩ := id hS
    have small : ∀ n : Int, n ≤ m → n < 2 ^ 1000 := fun n hn => Int.lt_of_le_of_lt (show n ≤ 10 ^ 60 - 1 by omega) (by decide)
    refine ⟨_, (pss_cons (ps_if (pt_cmp (pc_gt (pe_methP (ok_Stack_grown T) (hr.mono (by decide)) pass0 (pv 0) (pa_cons pe_int pa_nil)) (pv 1))) (pss_one (ps_ret pe_non)) pss_nil)
      (pss_cons (ps_par (i := 2) (j := 3) (by rfl) sc_greatest_within.nd rfl rfl (by decide) rfl rfl (pa_cons pe_int (pa_cons (pe_op op_add (pv 1) pe_int) pa_nil)) (by rfl))
      (pss_cons (ps_while PassesOwn.never (pt_cmp (pc_gt (pe_op op_sub (pv 3) (pv 2)) pe_int)) (pss_cons (ps_set (i := 4) sc_greatest_within.nd rfl (Or.inl rfl) (pe_op op_fdiv (pe_op op_add (pv 2) (pv 3)) pe_int))
      (pss_one (ps_if (pt_cmp (pc_le (pe_methP (ok_Stack_grown T) (hr.mono (by decide)) pass0 (pv 0) (pa_cons (pv 4) pa_nil)) (pv 1))) (pss_one (ps_set (i := 2) sc_greatest_within.nd rfl (Or.inl rfl) (pv 4))) (pss_one (ps_set (i := 3) sc_greatest_within.nd rfl (Or.inl rfl) (pv 4)))))))
      (pss_one (ps_ret (pv 2)))))), ?_⟩
    refine ⟨_, rfl, q, dx, _, rfl, g1, rfl, q, b, ws, 0, rfl, hS, so, by decide, by decide, _, rfl, _, _, rfl, rfl, _, rfl, ifd (fun c => ?_) (fun c => ?_)⟩
    · have c : grS b ws 0 > m := c
      have ig : IsG b ws m (-1) := ⟨by omega, by omega, fun n hn => by
        have := grS_mono so.b0 ws so.ok (n := 0) (k := n) (by omega) hn
        omega⟩
      have e := gwI_eq ig
      have k2 := k (by rw [e]; exact ig)
      unfold gwV at k2
      rw [e, if_pos (by decide)] at k2
      exact k2
    · have c : ¬ grS b ws 0 > m := c
      refine ⟨_, rfl, _, _, rfl, rfl, _, _, rfl, ?_⟩
      refine ⟨fun mm σ H1 => H1 = H ∧ ∃ (lo hi : Int) (v : Option V), 0 ≤ lo ∧ lo < hi ∧ hi ≤ m + 1 ∧ grS b ws lo ≤ m ∧ (hi = m + 1 ∨ m < grS b ws hi) ∧ mm = (hi - lo).toNat ∧ σ = [some (.ref q), some (.int m), some (.int lo), some (.int hi), v],
        ⟨_, rfl, 0, m + 1, none, by omega, by omega, by omega, by omega, .inl rfl, rfl, rfl⟩, ?_⟩
      rintro mm σ H1 ⟨rfl, lo, hi, v, l0, l1, l2, l3, l4, rfl, rfl⟩
      refine ⟨_, rfl, _, rfl, _, _, rfl, rfl, _, _, rfl, rfl, _, rfl, ifd (fun z => ?_) (fun z => ?_)⟩
      · have z : hi - lo > 1 := z
        refine ⟨_, fun σ' H' h => h, ?_⟩
        refine ⟨_, rfl, _, rfl, _, _, rfl, rfl, _, _, rfl, rfl, ⟨by decide, by decide⟩, ?_⟩
        refine ⟨_, rfl, q, dx, _, rfl, g1, rfl, _, rfl, q, b, ws, (lo + hi) / 2, rfl, hS, so, by omega, small _ (by omega), _, rfl, _, _, rfl, rfl, _, rfl, ifd (fun y => ?_) (fun y => ?_)⟩
        · exact ⟨_, rfl, _, by omega, rfl, (lo + hi) / 2, hi, _, by omega, by omega, l2, y, l4, rfl, rfl⟩
        · have y : ¬ grS b ws ((lo + hi) / 2) ≤ m := y
          exact ⟨_, rfl, _, by omega, rfl, lo, (lo + hi) / 2, _, l0, by omega, by omega, l3, .inr (by omega), rfl, rfl⟩
      · have z : ¬ hi - lo > 1 := z
        have ig : IsG b ws m lo := ⟨by omega, by omega, fun n hn => ⟨fun y => ?_, fun y => ?_⟩⟩
        · have e := gwI_eq ig
          have k2 := k (by rw [e]; exact ig)
          unfold gwV at k2
          rw [e, if_neg (by omega)] at k2
          exact ⟨_, rfl, k2⟩
        · by_cases u : n ≤ lo
          · exact u
          · exfalso
            rcases l4 with l4 | l4
            · have := grS_ge so.b0 ws so.ok hn
              omega
            · have := grS_mono so.b0 ws so.ok (n := hi) (k := n) (by omega) (by omega)
              omega
        · have := grS_mono so.b0 ws so.ok (n := n) (k := lo) hn y
          omega
end
/-! ### sizes along a road -/
noncomputable def trailL (b : Int) (ss : List Stp) (n : Int) (k : Nat) : List Int := (List.range k).map fun i => (trS b (ss.take i) n).1
theorem trailL_succ (b : Int) (ss : List Stp) (n : Int) (k : Nat) : trailL b ss n (k + 1) = trailL b ss n k ++ [(trS b (ss.take k) n).1] := by
  unfold trailL
  rw [List.range_succ, List.map_append]
  rfl
theorem trailL_len (b : Int) (ss : List Stp) (n : Int) (k : Nat) : (trailL b ss n k).length = k := by
  unfold trailL
  rw [List.length_map, List.length_range]
theorem trailL_at {b : Int} {ss : List Stp} {n : Int} {k i : Nat} (h : i < k) : (trailL b ss n k)[i]? = some (trS b (ss.take i) n).1 := by
  unfold trailL
  rw [List.getElem?_map, List.getElem?_range h]
  rfl
theorem inner_len (b : Int) (ws : List Wr) (n : Int) : (inner b ws n).length = ws.length := by
  unfold inner
  rw [List.length_map, List.length_range]
theorem atI_last1 {xs : List V} {y : V} : atI (xs ++ [y]) (-1) = some y := atI_last xs y
def spAlong (K : PySem.W.Frag) : Sp := fun vs H Q _ => ∃ (t : Addr) (xs : List V) (ss : List Stp) (n b : Int), vs = [.int b, .ref t, .int n] ∧ H t = some (.tup xs) ∧ StepsAt K H xs ss ∧ RoadB b ss ∧ ss.length ≤ 1000 ∧ 2 ≤ b ∧ b ≤ 256 ∧ 0 ≤ n ∧ n ≤ 10 ^ 60 - 1 ∧ ∀ q H', H q = none → Same H H' → H' q = some (.lst ((trailL b ss n (ss.length + 1)).map V.int)) → Q (.ref q) H'
def spRSizes (K : PySem.W.Frag) : Sp := fun vs H Q _ => ∃ (r : Addr) (ss : List Stp) (n b : Int), vs = [.ref r, .int n] ∧ RoadAt K H r b ss ∧ 0 ≤ n ∧ n ≤ 10 ^ 60 - 1 ∧ ∀ q H', H q = none → Same H H' → H' q = some (.tup ((trailL b ss n (ss.length + 1)).map V.int)) → Q (.ref q) H'
def spFits (K : PySem.W.Frag) : Sp := fun vs H Q _ => ∃ (r : Addr) (ss : List Stp) (n b : Int), vs = [.ref r, .int n] ∧ RoadAt K H r b ss ∧ 0 ≤ n ∧ n ≤ 10 ^ 60 - 1 ∧ ∀ v H', (v = true ↔ fitsP b ss n) → Same H H' → Q (.bl v) H'
section
variable {P : Program} {w : World} {K : PySem.W.Frag} {mg : Str → Option Value} {base : Heap}
theorem ok_sizes_along (T : Tx w K mg) : Prom P w K mg base CX0 4 "sizes_along" s_sizes_along ["base", "steps", "length"] (spAlong K) := by
  refine Prom.of T.d_sizes_along sc_sizes_along (fun vs H Q E h => ?_) (fun _ _ _ _ _ _ us hl => match us, hl with | [_, _, _], _ => rfl) (fun f cdv A outer s H vs Q E hr h => ?_)
  · obtain ⟨t, xs, ss, n, b, rfl, _⟩ := h
    rfl
  · obtain ⟨t, xs, ss, n, b, rfl, ht, hm, rb, len, b0, b1, n0, n1, k⟩ := h
    refine ⟨_, (pss_cons (ps_par (i := 3) (j := 4) (by rfl) sc_sizes_along.nd rfl rfl (by decide) rfl rfl (pa_cons (pe_lst (pa_cons (pv 2) pa_nil)) (pa_cons (pe_lst pa_nil) pa_nil)) (by rfl))
      (pss_cons (ps_for PassesOwn.never (by rfl) (pi_tup (pv 1)) (pg_name (i := 5) sc_sizes_along.nd rfl (Or.inl rfl)) (pss_cons (ps_set (i := 6) sc_sizes_along.nd rfl (Or.inl rfl) (pe_ix ix_list (pv 3) (pe_un un_neg pe_int) (fun _ _ => rfl)))
      (pss_cons (ps_if (pt_cmpR op_eq (pe_ix ix_tup (pv 5) pe_int (fun _ _ => rfl)) pe_str (nomark _)) (pss_cons (ps_expr (pe_bm PySem.F.plainAttrs_list PySem.F.slot_list_append PySem.F.type_list_append mt_append (pv 4) (pa_cons (pv 6) pa_nil)))
      (pss_one (ps_set (i := 6) sc_sizes_along.nd rfl (Or.inl rfl) (pe_methP (ok_Wrap_grown T) (hr.mono (by decide)) pass0 (pe_ix ix_tup (pv 5) pe_int (fun _ _ => rfl)) (pa_cons (pv 6) (pa_cons (pv 0) pa_nil)))))) (pss_one (ps_if (pt_cmpR op_eq (pe_ix ix_tup (pv 5) pe_int (fun _ _ => rfl)) pe_str (nomark _)) (pss_one (ps_set (i := 6) sc_sizes_along.nd rfl (Or.inl rfl) (pe_bm0 PySem.F.plainAttrs_list PySem.F.slot_list_pop PySem.F.type_list_pop mt_pop (pv 4)))) pss_nil)))
      (pss_one (ps_expr (pe_bm PySem.F.plainAttrs_list PySem.F.slot_list_append PySem.F.type_list_append mt_append (pv 3) (pa_cons (pv 6) pa_nil)))))))
      (pss_one (ps_ret (pv 3))))), ?_⟩
    refine ⟨_, rfl, (by show 1 ≤ sizeLine; decide), fun lf hlf => ⟨Nat.zero_le _, fun li hli => ⟨_, _, rfl, ?_⟩⟩⟩
    have nfi : lf ≠ li := ne_of_none upd_same hli
    have nli : H li = none := same_before (up hlf) hli
    refine ⟨_, rfl, t, rfl, ⟨_, SqT.of (up hli _ _ (up hlf _ _ ht))⟩, for_it (walk_tup (K := K) (a := t) (xs := xs)) (fun i σ H' => Same H H' ∧ ∃ (v1 v2 : Option V), H' lf = some (.lst ((trailL b ss n (i + 1)).map V.int)) ∧ H' li = some (.lst ((trS b (ss.take i) n).2.map V.int)) ∧ σ = [some (.int b), some (.ref t), some (.int n), some (.ref lf), some (.ref li), v1, v2])
      ⟨(up hlf).trans (up hli), none, none, up hli _ _ upd_same, upd_same, rfl⟩ (fun _ _ H' _ h => SqT.of (h.1 _ _ ht)) ?_ ?_⟩
    · rintro i x σ H0 H' hi ⟨hs, v1, v2, hf, hn, rfl⟩ ⟨rfl, hx⟩
      obtain ⟨q, st, rfl, hq, mv⟩ := hm.get hx
      have hil : i < ss.length := (List.getElem?_eq_some_iff.mp hq).1
      have et : ss.take (i + 1) = ss.take i ++ [st] := by
        rw [List.take_succ, hq]
        rfl
      have sok := rb.at_ hq
      have so := (rb.take i).stk b0 b1
      have e0 := trS_on (rb.take i) n
      have so6 := so.len
      have n2 : n < 2 ^ 200 := Int.lt_of_le_of_lt n1 (by decide)
      have bd := grS_pow b0 (onL (ss.take i)) so.ok (show 12 ≤ 200 by decide) n0 n2
      have c0 : 0 ≤ (trS b (ss.take i) n).1 := by
        rw [e0]
        exact bd.1
      have c1 : (trS b (ss.take i) n).1 < 2 ^ 3000 := by
        rw [e0]
        exact Int.lt_of_lt_of_le bd.2 (pow_mono (by decide) (by omega))
      have il : (trS b (ss.take i) n).2.length = (onL (ss.take i)).length := by
        rw [e0]
        exact inner_len _ _ _
      have mv := mv.keeps (.same hs)
      have et2 : trS b (ss.take (i + 1)) n = goT b (trS b (ss.take i) n) st := by rw [et, trS_snoc]
      have ef : (trailL b ss n (i + 1)).map V.int = (trailL b ss n i).map V.int ++ [.int (trS b (ss.take i) n).1] := by
        rw [trailL_succ, List.map_append]
        rfl
      refine ⟨_, rfl, _, rfl, lf, _, _, .int (trS b (ss.take i) n).1, rfl, rfl, SqL.of hf, by rw [ef]; exact atI_last1, ?_⟩
      rw [trailL_succ, et2]
      generalize trS b (ss.take i) n = z at c0 c1 il hn et2 ⊢
      have small : (trailL b ss n (i + 1)).length < sizeLine := by
        rw [trailL_len, sizeLine_eq]
        omega
      cases st with
      | push a =>
        obtain ⟨u, h1, h2⟩ := mv
        have ks : Keeps K H' (upd H' li (.lst (z.2.map V.int ++ [.int z.1]))) := .lst hn
        have aok : a.ok := sok.ok a (by simp)
        obtain ⟨du, pu, u1, u2⟩ := id (h2.keeps ks)
        refine ⟨_, rfl, q, _, _, _, rfl, rfl, SqT.of h1, rfl, rfl, _, rfl, ifd_pos rfl ?_⟩
        refine ⟨_, rfl, .inl ⟨rfl, _, SqL.of hn⟩, _, rfl, li, _, _, rfl, rfl, hn, ?_, ?_⟩
        · rw [List.length_map, il, sizeLine_eq]
          omega
        refine ⟨_, rfl, q, _, _, _, rfl, rfl, SqT.of (ks.tup h1), rfl, u, du, _, rfl, u1, rfl, _, rfl, _, rfl, a, u, z.1, b, rfl, h2.keeps ks, aok, b0, b1, c0, c1, ?_⟩
        have hf3 : (upd H' li (.lst (z.2.map V.int ++ [.int z.1]))) lf = some (.lst ((trailL b ss n (i + 1)).map V.int)) := by rw [upd_ne nfi]; exact hf
        refine ⟨_, rfl, .inl ⟨rfl, _, SqL.of hf3⟩, _, rfl, lf, _, _, rfl, rfl, hf3, by rw [List.length_map]; exact small, ?_⟩
        refine ⟨fun y o e => ?_, _, _, ?_, ?_, rfl⟩
        · rw [upd_ne (ne_of_none e hlf), upd_ne (ne_of_none e nli)]
          exact hs _ _ e
        · rw [upd_same, List.map_append]
          rfl
        · rw [upd_ne (Ne.symm nfi), upd_same]
          show _ = some (HO.lst ((z.2 ++ [z.1]).map V.int))
          rw [List.map_append]
          rfl
      | pop =>
        have h1 : H' q = _ := mv
        have ne : onL (ss.take i) ≠ [] := sok
        have zl : 0 < z.2.length := by
          have : (onL (ss.take i)).length ≠ 0 := fun y => ne (List.eq_nil_of_length_eq_zero y)
          omega
        refine ⟨_, rfl, q, _, _, _, rfl, rfl, SqT.of h1, rfl, rfl, _, rfl, ifs_neg (show ("pop" : Str) ≠ "push" by decide) ?_⟩
        refine ⟨_, rfl, q, _, _, _, rfl, rfl, SqT.of h1, rfl, rfl, _, rfl, ifd_pos rfl ?_⟩
        have eg : z.2.getLast?.getD 0 = z.2[z.2.length - 1]'(by omega) := by
          rw [List.getLast?_eq_getElem?, List.getElem?_eq_getElem (by omega)]
          rfl
        refine ⟨_, rfl, .inl ⟨rfl, _, SqL.of hn⟩, li, _, .int (z.2.getLast?.getD 0), rfl, rfl, hn, ?_, ?_⟩
        · rw [List.length_map, List.getElem?_map, List.getElem?_eq_getElem (by omega), eg]
          rfl
        have hf3 : (upd H' li (.lst (z.2.map V.int).dropLast)) lf = some (.lst ((trailL b ss n (i + 1)).map V.int)) := by rw [upd_ne nfi]; exact hf
        refine ⟨_, rfl, .inl ⟨rfl, _, SqL.of hf3⟩, _, rfl, lf, _, _, rfl, rfl, hf3, by rw [List.length_map]; exact small, ?_⟩
        refine ⟨fun y o e => ?_, _, _, ?_, ?_, rfl⟩
        · rw [upd_ne (ne_of_none e hlf), upd_ne (ne_of_none e nli)]
          exact hs _ _ e
        · rw [upd_same, List.map_append]
          rfl
        · rw [upd_ne (Ne.symm nfi), upd_same]
          show some (HO.lst (z.2.map V.int).dropLast) = some (HO.lst (z.2.dropLast.map V.int))
          rw [List.map_dropLast]
      | bound y =>
        have h1 : H' q = _ := mv
        refine ⟨_, rfl, q, _, _, _, rfl, rfl, SqT.of h1, rfl, rfl, _, rfl, ifs_neg (show ("bound" : Str) ≠ "push" by decide) ?_⟩
        refine ⟨_, rfl, q, _, _, _, rfl, rfl, SqT.of h1, rfl, rfl, _, rfl, ifs_neg (show ("bound" : Str) ≠ "pop" by decide) ?_⟩
        refine ⟨_, rfl, .inl ⟨rfl, _, SqL.of hf⟩, _, rfl, lf, _, _, rfl, rfl, hf, by rw [List.length_map]; exact small, ?_⟩
        refine ⟨fun y o e => ?_, _, _, ?_, ?_, rfl⟩
        · rw [upd_ne (ne_of_none e hlf)]
          exact hs _ _ e
        · rw [upd_same, List.map_append]
          rfl
        · rw [upd_ne (Ne.symm nfi)]
          exact hn
    · rintro σ H' ⟨hs, v1, v2, hf, hn, rfl⟩
      rw [hm.len] at hf
      exact ⟨_, rfl, k lf H' hlf hs hf⟩
theorem ok_Road_sizes (T : Tx w K mg) : PromM P w K mg base CX0 5 "Road" "sizes" ["self", "length"] (spRSizes K) := by
  refine PromM.of T.cl_Road T.me_Road_sizes T.dm_Road_sizes sc_Road_sizes (fun vs H Q E h => ?_) (fun _ _ _ _ _ _ us hl => match us, hl with | [_, _], _ => rfl) (fun f cdv A outer s H vs Q E hr h => ?_)
  · obtain ⟨r, ss, n, b, rfl, _⟩ := h
    rfl
  · obtain ⟨r, ss, n, b, rfl, hR, n0, n1, k⟩ := h
    obtain ⟨dx, t, q, xs, h1, h2, h3, h4⟩ := hR.at_
    refine ⟨_, (pss_cons (ps_expr (pe_callP (ok_check_length T) (hr.mono (by decide)) (by rfl) pass0 (pa_cons (pv 1) pa_nil)))
      (pss_one (ps_ret (pe_callTy call_tuple_of (by rfl) T.b_tuple (by decide +kernel) (pa_cons (pe_callP (ok_sizes_along T) (hr.mono (by decide)) (by rfl) pass0 (pa_cons (pe_fld (pv 0) rfl) (pa_cons (pe_fld (pv 0) rfl) (pa_cons (pv 1) pa_nil)))) pa_nil))))), ?_⟩
    refine ⟨_, rfl, n, rfl, n0, n1, ?_⟩
    refine ⟨_, rfl, r, _, dx, _, _, rfl, h1, T.cl_Road, T.na_Road_base, rfl, _, rfl, r, _, dx, _, _, rfl, h1, T.cl_Road, T.na_Road_steps, rfl, _, rfl, t, xs, ss, n, b, rfl, h2, h3, hR.rb, hR.len, hR.b0, hR.b1, n0, n1, fun l H1 nl s1 hl => ?_⟩
    exact ⟨l, _, rfl, .inl ⟨SqL.of hl, fun t2 ht2 => k t2 _ (same_before s1 ht2) (s1.trans (up ht2)) upd_same⟩⟩
theorem ok_Road_fits (T : Tx w K mg) : PromM P w K mg base CX0 6 "Road" "fits" ["self", "length"] (spFits K) := by
  refine PromM.of T.cl_Road T.me_Road_fits T.dm_Road_fits sc_Road_fits (fun vs H Q E h => ?_) (fun _ _ _ _ _ _ us hl => match us, hl with | [_, _], _ => rfl) (fun f cdv A outer s H vs Q E hr h => ?_)
  · obtain ⟨r, ss, n, b, rfl, _⟩ := h
    rfl
  · obtain ⟨r, ss, n, b, rfl, hR, n0, n1, k⟩ := h
    obtain ⟨dx, t, q, xs, h1, h2, h3, h4⟩ := hR.at_
    have hlx := h3.len
    refine ⟨_, (pss_cons (ps_set (i := 2) sc_Road_fits.nd rfl (Or.inl rfl) (pe_methP (ok_Road_sizes T) (hr.mono (by decide)) pass0 (pv 0) (pa_cons (pv 1) pa_nil)))
      (pss_one (ps_ret (pe_callB (cr_all rfl) (by rfl) T.b_all (by decide +kernel) (pa_cons (pe_lc (own := [("size", 3), ("step", 4)]) (g := (gTup K 2 (gCons (gName 3) (gCons (gName 4) gNil)))) (by rfl) sc_Road_fits.nd (RZ.pi_zipA (by rfl) T.b_zip (pa_cons (pv 2) (pa_cons (pe_fld (pv 0) rfl) pa_nil))) (blkOk_by (own := [("size", 3), ("step", 4)]) (N := ["self", "length", "sizes", "size", "step"]) (sc := defScope s_Road_fits) (by decide +kernel)) (fun _ _ _ _ _ => (pg_tup rfl (pgs_cons (pg_name (i := 3) sc_Road_fits.nd rfl (Or.inl rfl)) (pgs_cons (pg_name (i := 4) sc_Road_fits.nd rfl (Or.inl rfl)) pgs_nil)))) (fun _ _ _ _ _ => pts_one (pt_cmpR op_eq (pe_ix (show IxR _ (rIxT K) from ix_tup) (pv 4) pe_int (fun _ _ => rfl)) pe_str (nomark _))) (fun _ _ _ _ _ => (pe_cmpR op_le (pv 3) (pe_ix (show IxR _ (rIxT K) from ix_tup) (pv 4) pe_int (fun _ _ => rfl)) (nomark _)))) pa_nil))))), ?_⟩
    refine ⟨_, rfl, r, dx, _, rfl, h1, rfl, _, rfl, r, ss, n, b, rfl, hR, n0, n1, fun t1 H1 nt1 s1 ht1 => ?_⟩
    refine ⟨_, rfl, _, rfl, r, _, dx, _, _, rfl, s1 _ _ h1, T.cl_Road, T.na_Road_steps, rfl, t1, t, _, xs, rfl, .inr ⟨SqT.of ht1, SqT.of (s1 _ _ h2), fun D hD => ?_⟩⟩
    have hn : ss.length = min ((trailL b ss n (ss.length + 1)).map V.int).length xs.length := by
      rw [List.length_map, trailL_len]
      omega
    refine lc_it (walk_zipT (K := K) (a := t1) (b := t) (n := ss.length) hn) (fun i H' => Same H1 H' ∧ ∃ bs : List Bool, H' D = some (.lst (bs.map V.bl)) ∧ bs.length ≤ i ∧ (bs.all id = true ↔ fitsP b (ss.take i) n)) ⟨up hD, [], upd_same, by simp, by simp; intro i m e; simp at e⟩ (fun i H' _ h => ⟨SqT.of (h.1 _ _ ht1), SqT.of (h.1 _ _ (s1 _ _ h2))⟩) ?_ ?_
    · rintro i x H2 H3 hi ⟨hs, bs, hb, bl, bf⟩ ⟨T2, x1, x2, rfl, hT2, rfl, e1, e2⟩
      have len := hR.len
      obtain ⟨u, st, rfl, hst, hu⟩ := h3.get e2
      have et : ss.take (i + 1) = ss.take i ++ [st] := by
        rw [List.take_succ, hst]
        rfl
      have ez : x1 = .int (grS b (onL (ss.take i)) n) := by
        have e1 : ((trailL b ss n (ss.length + 1)).map V.int)[i]? = some x1 := e1
        rw [List.getElem?_map, trailL_at (by omega), trS_on (hR.rb.take i) n] at e1
        exact (Option.some.inj e1).symm
      subst ez
      have s2 := hs.trans (up (o := .tup [.int (grS b (onL (ss.take i)) n), .ref u]) hT2)
      have hb2 := up (o := .tup [.int (grS b (onL (ss.take i)) n), .ref u]) hT2 _ _ hb
      have hu := hu.keeps (.same (s1.trans s2))
      refine ⟨T2, _, rfl, SqT.of upd_same, rfl, _, _, rfl, _, _, rfl, rfl, rfl, ?_⟩
      generalize (upd H2 T2 (.tup [.int (grS b (onL (ss.take i)) n), .ref u])) = H4 at s2 hb2 hu ⊢
      have small : (bs.map V.bl).length < sizeLine := by
        rw [List.length_map, sizeLine_eq]
        omega
      rw [et]
      cases st with
      | push a =>
        obtain ⟨y, g1, g2⟩ := hu
        refine ⟨_, rfl, u, _, _, _, rfl, rfl, SqT.of g1, rfl, rfl, _, rfl, ifs_neg (show ("push" : Str) ≠ "bound" by decide) ?_⟩
        exact ⟨s2, bs, hb2, by omega, by rw [fits_snoc, bf]; exact ⟨fun h => ⟨h, fun m e => by cases e⟩, fun h => h.1⟩⟩
      | pop =>
        have g1 : H4 u = _ := hu
        refine ⟨_, rfl, u, _, _, _, rfl, rfl, SqT.of g1, rfl, rfl, _, rfl, ifs_neg (show ("pop" : Str) ≠ "bound" by decide) ?_⟩
        exact ⟨s2, bs, hb2, by omega, by rw [fits_snoc, bf]; exact ⟨fun h => ⟨h, fun m e => by cases e⟩, fun h => h.1⟩⟩
      | bound m =>
        have g1 : H4 u = _ := hu
        refine ⟨_, rfl, u, _, _, _, rfl, rfl, SqT.of g1, rfl, rfl, _, rfl, ifd_pos rfl ?_⟩
        refine ⟨_, rfl, _, rfl, u, _, _, _, rfl, rfl, SqT.of g1, rfl, _, _, rfl, rfl, _, hb2, small, fun y o e => ?_, bs ++ [decide (grS b (onL (ss.take i)) n ≤ m)], ?_, ?_, ?_⟩
        · rw [upd_ne (ne_of_none e hD)]
          exact s2 _ _ e
        · rw [upd_same, List.map_append]
          rfl
        · rw [List.length_append]
          simp
          omega
        · rw [fits_snoc, ← bf, List.all_append]
          simp
    · rintro H2 ⟨hs, bs, hb, bl, bf⟩
      rw [List.take_length] at bf
      exact ⟨D, bs, rfl, SqL.of hb, k _ _ bf (s1.trans hs)⟩
end
theorem cut_to {xs : List V} {i : Nat} (h : i ≤ xs.length) : cutV xs none (some (i : Int)) = xs.take i := by
  unfold cutV
  rw [HT.sIx_none, HT.sIx_nat]
  simp [Nat.min_eq_left h]
theorem cut_from {xs : List V} {i : Nat} (h : i ≤ xs.length) : cutV xs (some (i : Int)) none = xs.drop i := by
  unfold cutV
  rw [HT.sIx_none, HT.sIx_nat, Nat.min_eq_left h]
  exact List.take_of_length_le (by rw [List.length_drop]; exact Nat.le_refl _)
inductive PairsAt (H : Hp) : List V → List (Int × Int) → Prop where
  | nil : PairsAt H [] []
  | cons {p : Addr} {a : Int × Int} {xs : List V} {ws : List (Int × Int)} (h : H p = some (.tup [.int a.1, .int a.2])) (r : PairsAt H xs ws) : PairsAt H (.ref p :: xs) (a :: ws)
theorem PairsAt.len {H : Hp} {xs : List V} {ws : List (Int × Int)} (h : PairsAt H xs ws) : xs.length = ws.length := by
  induction h with
  | nil => rfl
  | cons _ _ ih => exact congrArg (· + 1) ih
theorem PairsAt.get {H : Hp} {xs : List V} {ws : List (Int × Int)} (h : PairsAt H xs ws) : ∀ {i : Nat} {x : V}, xs[i]? = some x → ∃ (p : Addr) (a : Int × Int), x = .ref p ∧ ws[i]? = some a ∧ H p = some (.tup [.int a.1, .int a.2]) := by
  induction h with
  | nil =>
    intro i x e
    simp at e
  | cons h _ ih =>
    intro i x e
    cases i with
    | zero =>
      simp at e
      exact ⟨_, _, e.symm, rfl, h⟩
    | succ i => exact ih (by simpa using e)
theorem PairsAt.same {H H' : Hp} {xs : List V} {ws : List (Int × Int)} (h : PairsAt H xs ws) (s : Same H H') : PairsAt H' xs ws := by
  induction h with
  | nil => exact .nil
  | cons h _ ih => exact .cons (s _ _ h) ih
theorem PairsAt.snoc {H : Hp} {xs : List V} {ws : List (Int × Int)} {p : Addr} {a : Int × Int} (h : PairsAt H xs ws) (hx : H p = some (.tup [.int a.1, .int a.2])) : PairsAt H (xs ++ [.ref p]) (ws ++ [a]) := by
  induction h with
  | nil => exact .cons hx .nil
  | cons h _ ih => exact .cons h ih
theorem PairsAt.put {H : Hp} {l : Addr} {xs : List V} {ys zs : List V} {ws : List (Int × Int)} (h : PairsAt H xs ws) (hl : H l = some (.lst ys)) : PairsAt (upd H l (.lst zs)) xs ws := by
  induction h with
  | nil => exact .nil
  | @cons q a xs ws h _ ih =>
    refine .cons ?_ ih
    rw [upd_ne (fun z => by rw [z, hl] at h; cases h)]
    exact h
/-- each bound's place and the greatest length that it lets through -/
noncomputable def reachAt (b : Int) (ss : List Stp) (i : Nat) : Option (Int × Int) := match ss[i]? with
  | some (.bound m) => some ((i : Nat), gwI b (onL (ss.take i)) m)
  | _ => none
noncomputable def reachL (b : Int) (ss : List Stp) (k : Nat) : List (Int × Int) := (List.range k).filterMap (reachAt b ss)
theorem reachL_succ (b : Int) (ss : List Stp) (k : Nat) : reachL b ss (k + 1) = reachL b ss k ++ (reachAt b ss k).toList := by
  unfold reachL
  rw [List.range_succ, List.filterMap_append]
  cases e : reachAt b ss k <;> simp [e]
theorem reachL_len (b : Int) (ss : List Stp) : ∀ k : Nat, (reachL b ss k).length ≤ k
  | 0 => Nat.le_refl _
  | k + 1 => by
    rw [reachL_succ, List.length_append]
    have := reachL_len b ss k
    cases reachAt b ss k <;> simp <;> omega
def leastL (ps : List (Int × Int)) : Int := (ps.map (·.2)).foldl (fun x y => if y < x then y else x) (10 ^ 60 - 1)
theorem least_fold : ∀ (ns : List Int) (x : Int), (ns.foldl (fun x y => if y < x then y else x) x ≤ x) ∧ (∀ n ∈ ns, ns.foldl (fun x y => if y < x then y else x) x ≤ n) ∧ (ns.foldl (fun x y => if y < x then y else x) x = x ∨ ns.foldl (fun x y => if y < x then y else x) x ∈ ns)
  | [], x => ⟨Int.le_refl x, fun n h => absurd h (by simp), .inl rfl⟩
  | y :: ns, x => by
    obtain ⟨h1, h2, h3⟩ := least_fold ns (if y < x then y else x)
    have e : (y :: ns).foldl (fun x y => if y < x then y else x) x = ns.foldl (fun x y => if y < x then y else x) (if y < x then y else x) := rfl
    rw [e]
    have l1 : (if y < x then y else x) ≤ x := by split <;> omega
    have l2 : (if y < x then y else x) ≤ y := by split <;> omega
    refine ⟨Int.le_trans h1 l1, fun n hn => ?_, ?_⟩
    · rcases List.mem_cons.mp hn with rfl | hn
      · exact Int.le_trans h1 l2
      · exact h2 n hn
    · rcases h3 with h3 | h3
      · rw [h3]
        by_cases z : y < x
        · rw [if_pos z]
          exact .inr (List.mem_cons_self ..)
        · rw [if_neg z]
          exact .inl rfl
      · exact .inr (List.mem_cons_of_mem _ h3)
theorem leastL_eq {ps : List (Int × Int)} {m : Int} (h1 : m ∈ (10 ^ 60 - 1) :: ps.map (·.2)) (h2 : ∀ x ∈ (10 ^ 60 - 1) :: ps.map (·.2), m ≤ x) : m = leastL ps := by
  obtain ⟨g1, g2, g3⟩ := least_fold (ps.map (·.2)) (10 ^ 60 - 1)
  have a : m ≤ leastL ps := by
    refine h2 _ ?_
    rcases g3 with g3 | g3
    · unfold leastL
      rw [g3]
      exact List.mem_cons_self ..
    · exact List.mem_cons_of_mem _ g3
  have b : leastL ps ≤ m := by
    rcases List.mem_cons.mp h1 with h | h
    · rw [h]
      exact g1
    · exact g2 _ h
  omega
def LAST : Int := 10 ^ 60 - 1
/-- what fits -/
theorem least_fits {b : Int} {ss : List Stp} (hg : ∀ i m, ss[i]? = some (.bound m) → IsG b (onL (ss.take i)) m (gwI b (onL (ss.take i)) m)) {n : Int} (n0 : 0 ≤ n) (n1 : n ≤ 10 ^ 60 - 1) : fitsP b ss n ↔ n ≤ leastL (reachL b ss ss.length) := by
  obtain ⟨g1, g2, g3⟩ := least_fold ((reachL b ss ss.length).map (·.2)) (10 ^ 60 - 1)
  have mem : ∀ x, x ∈ (reachL b ss ss.length).map (·.2) ↔ ∃ i m, ss[i]? = some (.bound m) ∧ x = gwI b (onL (ss.take i)) m := fun x => by
    unfold reachL
    rw [List.mem_map]
    constructor
    · rintro ⟨p, hp, rfl⟩
      obtain ⟨i, hi, e⟩ := List.mem_filterMap.mp hp
      unfold reachAt at e
      cases es : ss[i]? with
      | none => rw [es] at e; cases e
      | some s =>
        rw [es] at e
        cases s with
        | bound m =>
          refine ⟨i, m, es, ?_⟩
          have e := Option.some.inj e
          rw [← e]
        | push a => cases e
        | pop => cases e
    · rintro ⟨i, m, es, rfl⟩
      refine ⟨((i : Nat), gwI b (onL (ss.take i)) m), List.mem_filterMap.mpr ⟨i, List.mem_range.mpr (List.getElem?_eq_some_iff.mp es).1, ?_⟩, rfl⟩
      unfold reachAt
      rw [es]
  constructor
  · intro h
    show n ≤ leastL _
    rcases g3 with g3 | g3
    · unfold leastL
      rw [g3]
      exact n1
    · obtain ⟨i, m, es, e⟩ := (mem _).mp g3
      have := ((hg i m es).2.2 n n0).mp (h i m es)
      unfold leastL
      rw [e]
      exact this
  · intro h i m es
    have := g2 _ ((mem _).mpr ⟨i, m, es, rfl⟩)
    exact ((hg i m es).2.2 n n0).mpr (Int.le_trans h this)
theorem least_range {b : Int} {ss : List Stp} (hg : ∀ i m, ss[i]? = some (.bound m) → IsG b (onL (ss.take i)) m (gwI b (onL (ss.take i)) m)) : -1 ≤ leastL (reachL b ss ss.length) ∧ leastL (reachL b ss ss.length) ≤ 10 ^ 60 - 1 := by
  obtain ⟨g1, g2, g3⟩ := least_fold ((reachL b ss ss.length).map (·.2)) (10 ^ 60 - 1)
  refine ⟨?_, g1⟩
  rcases g3 with g3 | g3
  · unfold leastL
    rw [g3]
    decide
  · unfold leastL
    generalize ((reachL b ss ss.length).map (·.2)).foldl (fun x y => if y < x then y else x) (10 ^ 60 - 1) = z at g3 ⊢
    obtain ⟨p, hp, rfl⟩ := List.mem_map.mp g3
    obtain ⟨i, hi, e⟩ := List.mem_filterMap.mp hp
    unfold reachAt at e
    cases es : ss[i]? with
    | none => rw [es] at e; cases e
    | some s =>
      rw [es] at e
      cases s with
      | bound m =>
        have e := Option.some.inj e
        rw [← e]
        exact (hg i m es).1
      | push a => cases e
      | pop => cases e
def AllG (b : Int) (ss : List Stp) : Prop := ∀ i m, ss[i]? = some (.bound m) → IsG b (onL (ss.take i)) m (gwI b (onL (ss.take i)) m)
def spReaches (K : PySem.W.Frag) : Sp := fun vs H Q _ => ∃ (t : Addr) (xs : List V) (ss : List Stp) (b : Int), vs = [.int b, .ref t] ∧ H t = some (.tup xs) ∧ StepsAt K H xs ss ∧ RoadB b ss ∧ ss.length ≤ 1000 ∧ 2 ≤ b ∧ b ≤ 256 ∧ ∀ q ys H', H q = none → AllG b ss → Same H H' → H' q = some (.lst ys) → PairsAt H' ys (reachL b ss ss.length) → Q (.ref q) H'
def spLeast : Sp := fun vs H Q _ => ∃ (l : Addr) (ys : List V) (ps : List (Int × Int)), vs = [.ref l] ∧ H l = some (.lst ys) ∧ PairsAt H ys ps ∧ ps.length ≤ 1000 ∧ ∀ H', Same H H' → Q (.int (leastL ps)) H'
def spGreatest (K : PySem.W.Frag) : Sp := fun vs H Q _ => ∃ (r : Addr) (ss : List Stp) (b : Int), vs = [.ref r] ∧ RoadAt K H r b ss ∧ ∀ H', AllG b ss → Same H H' → Q (if leastL (reachL b ss ss.length) < 0 then .non else .int (leastL (reachL b ss ss.length))) H'
section
variable {P : Program} {w : World} {K : PySem.W.Frag} {mg : Str → Option Value} {base : Heap}
theorem ok_reaches (T : Tx w K mg) : Prom P w K mg base CX0 7 "reaches" s_reaches ["base", "steps"] (spReaches K) := by
  refine Prom.of T.d_reaches sc_reaches (fun vs H Q E h => ?_) (fun _ _ _ _ _ _ us hl => match us, hl with | [_, _], _ => rfl) (fun f cdv A outer s H vs Q E hr h => ?_)
  · obtain ⟨t, xs, ss, b, rfl, _⟩ := h
    rfl
  · obtain ⟨t, xs, ss, b, rfl, ht, hm, rb, len, b0, b1, k⟩ := h
    have hlx := hm.len
    refine ⟨_, (pss_cons (ps_set (i := 2) sc_reaches.nd rfl (Or.inl rfl) (pe_lst pa_nil))
      (pss_cons (ps_for PassesOwn.never (by rfl) (pi_enumT (by rfl) T.b_enumerate (pa_cons (pv 1) pa_nil)) (pg_tup rfl (pgs_cons (pg_name (i := 3) sc_reaches.nd rfl (Or.inl rfl)) (pgs_cons (pg_name (i := 4) sc_reaches.nd rfl (Or.inl rfl)) pgs_nil))) (pss_one (ps_if (pt_cmpR op_eq (pe_ix ix_tup (pv 4) pe_int (fun _ _ => rfl)) pe_str (nomark _)) (pss_cons (ps_set (i := 5) sc_reaches.nd rfl (Or.inl rfl) (pe_callP (ok_greatest_within T) (hr.mono (by decide)) (by rfl) pass0 (pa_cons (pe_callP (ok_stack_behind T) (hr.mono (by decide)) (by rfl) pass0 (pa_cons (pv 0) (pa_cons (pe_slice sl_tup (pv 1) po_none (po_some (pv 3))) pa_nil))) (pa_cons (pe_ix ix_tup (pv 4) pe_int (fun _ _ => rfl)) pa_nil))))
      (pss_one (ps_expr (pe_bm PySem.F.plainAttrs_list PySem.F.slot_list_append PySem.F.type_list_append mt_append (pv 2) (pa_cons (pe_tup (pa_cons (pv 3) (pa_cons (pe_ifExp (pt_cmpR op_isN (pv 5) pe_non (nomark _)) (pe_un un_neg pe_int) (pv 5)) pa_nil))) pa_nil))))) pss_nil)))
      (pss_one (ps_ret (pv 2))))), ?_⟩
    refine ⟨Nat.zero_le _, fun l hl => ?_⟩
    refine ⟨_, rfl, t, xs, rfl, SqT.of (up hl _ _ ht), for_it (walk_enumT (K := K) (a := t) (xs := xs)) (fun i σ H' => Same H H' ∧ (∀ j m, j < i → ss[j]? = some (.bound m) → IsG b (onL (ss.take j)) m (gwI b (onL (ss.take j)) m)) ∧ ∃ (ys : List V) (v1 v2 v3 : Option V), H' l = some (.lst ys) ∧ PairsAt H' ys (reachL b ss i) ∧ σ = [some (.int b), some (.ref t), some (.ref l), v1, v2, v3])
      ⟨up hl, fun j m hj => absurd hj (Nat.not_lt_zero j), [], none, none, none, upd_same, .nil, rfl⟩ (fun _ _ H' _ h => SqT.of (h.1 _ _ ht)) ?_ ?_⟩
    · rintro i x σ H1 H2 hi ⟨hs, hg, ys, v1, v2, v3, hl1, hy, rfl⟩ ⟨T2, x1, x2, rfl, hT2, rfl, e1, e2⟩
      cases e1
      obtain ⟨u, st, rfl, hst, hu⟩ := hm.get e2
      have hil : i < ss.length := (List.getElem?_eq_some_iff.mp hst).1
      have s2 := hs.trans (up (o := .tup [.int (i : Nat), .ref u]) hT2)
      have hl2 := up (o := .tup [.int (i : Nat), .ref u]) hT2 _ _ hl1
      have hy2 := hy.same (up (o := .tup [.int (i : Nat), .ref u]) hT2)
      have hu := hu.keeps (.same s2)
      refine ⟨T2, _, rfl, SqT.of upd_same, rfl, _, _, rfl, _, _, rfl, rfl, ?_⟩
      generalize (upd H1 T2 (.tup [.int (i : Nat), .ref u])) = H4 at s2 hl2 hy2 hu ⊢
      have ext : (∀ m, st = .bound m → IsG b (onL (ss.take i)) m (gwI b (onL (ss.take i)) m)) → ∀ j m, j < i + 1 → ss[j]? = some (.bound m) → IsG b (onL (ss.take j)) m (gwI b (onL (ss.take j)) m) := fun hh j m hj e => by
        by_cases z : j = i
        · subst z
          rw [hst] at e
          exact hh m (Option.some.inj e)
        · exact hg j m (by omega) e
      cases st with
      | push a =>
        obtain ⟨y, g1, g2⟩ := hu
        have er : reachL b ss (i + 1) = reachL b ss i := by
          rw [reachL_succ]
          unfold reachAt
          rw [hst]
          simp
        rw [er]
        refine ⟨_, rfl, u, _, _, _, rfl, rfl, SqT.of g1, rfl, rfl, _, rfl, ifs_neg (show ("push" : Str) ≠ "bound" by decide) ?_⟩
        exact ⟨s2, ext (fun m e => by cases e), ys, _, _, _, hl2, hy2, rfl⟩
      | pop =>
        have g1 : H4 u = _ := hu
        have er : reachL b ss (i + 1) = reachL b ss i := by
          rw [reachL_succ]
          unfold reachAt
          rw [hst]
          simp
        rw [er]
        refine ⟨_, rfl, u, _, _, _, rfl, rfl, SqT.of g1, rfl, rfl, _, rfl, ifs_neg (show ("pop" : Str) ≠ "bound" by decide) ?_⟩
        exact ⟨s2, ext (fun m e => by cases e), ys, _, _, _, hl2, hy2, rfl⟩
      | bound m =>
        have g1 : H4 u = _ := hu
        have sok : 0 ≤ m ∧ m ≤ 10 ^ 60 - 1 := rb.at_ hst
        have so := (rb.take i).stk b0 b1
        have er : reachL b ss (i + 1) = reachL b ss i ++ [(((i : Nat) : Int), gwI b (onL (ss.take i)) m)] := by
          rw [reachL_succ]
          unfold reachAt
          rw [hst]
          rfl
        have e0 : cutV xs none (some (i : Int)) = xs.take i := cut_to (by omega)
        have yl := hy.len
        have rl := reachL_len b ss i
        refine ⟨_, rfl, u, _, _, _, rfl, rfl, SqT.of g1, rfl, rfl, _, rfl, ifd_pos rfl ?_⟩
        refine ⟨_, rfl, _, rfl, _, rfl, _, rfl, t, xs, rfl, SqT.of (s2 _ _ ht), ?_, fun p1 hp1 => ?_⟩
        · rintro ⟨_, z⟩
          rw [HT.sIx_nat] at z
          omega
        rw [e0]
        have s3 := s2.trans (up (o := .tup (xs.take i)) hp1)
        refine ⟨p1, _, b, ss.take i, rfl, upd_same, (hm.keeps (.same s3)).take i, rb.take i, b0, b1, fun q H5 nq s5 st5 => ?_⟩
        have s6 := s3.trans s5
        have g5 := s5 _ _ (up hp1 _ _ g1)
        refine ⟨_, rfl, u, _, _, _, rfl, rfl, SqT.of g5, rfl, q, b, m, _, rfl, st5, so, sok.1, sok.2, fun ig => ?_⟩
        have hl5 := s5 _ _ (up hp1 _ _ hl2)
        have hy5 := (hy2.same (up (o := .tup (xs.take i)) hp1)).same s5
        have fin : ∀ t7, H5 t7 = none → Same H (upd (upd H5 t7 (.tup [.int (i : Nat), .int (gwI b (onL (ss.take i)) m)])) l (.lst (ys ++ [.ref t7]))) ∧ PairsAt (upd (upd H5 t7 (.tup [.int (i : Nat), .int (gwI b (onL (ss.take i)) m)])) l (.lst (ys ++ [.ref t7]))) (ys ++ [.ref t7]) (reachL b ss (i + 1)) := fun t7 ht7 => by
          refine ⟨fun y o e => ?_, ?_⟩
          · rw [upd_ne (ne_of_none e hl)]
            exact up ht7 _ _ (s6 _ _ e)
          · rw [er]
            exact PairsAt.put (PairsAt.snoc (a := (((i : Nat) : Int), gwI b (onL (ss.take i)) m)) (hy5.same (up ht7)) upd_same) (up ht7 _ _ hl5)
        have small : ys.length < sizeLine := by
          rw [sizeLine_eq]
          omega
        refine ⟨_, rfl, .inl ⟨rfl, _, SqL.of hl5⟩, _, rfl, ?_⟩
        unfold gwV
        by_cases z : gwI b (onL (ss.take i)) m < 0
        · rw [if_pos z]
          have e1 : gwI b (onL (ss.take i)) m = -1 := by have := ig.1; omega
          rw [e1] at fin
          refine ⟨_, rfl, rfl, _, rfl, ifd_pos rfl ⟨_, rfl, (by show 2 ≤ sizeLine; decide), fun t7 ht7 => ⟨l, _, _, rfl, rfl, up ht7 _ _ hl5, small, ?_⟩⟩⟩
          obtain ⟨f1, f2⟩ := fin t7 ht7
          exact ⟨f1, ext (fun m' e => by cases e; exact ig), _, _, _, _, upd_same, f2, rfl⟩
        · rw [if_neg z]
          refine ⟨_, rfl, rfl, _, rfl, ifd_neg (fun y => by cases y) ⟨_, rfl, (by show 2 ≤ sizeLine; decide), fun t7 ht7 => ⟨l, _, _, rfl, rfl, up ht7 _ _ hl5, small, ?_⟩⟩⟩
          obtain ⟨f1, f2⟩ := fin t7 ht7
          exact ⟨f1, ext (fun m' e => by cases e; exact ig), _, _, _, _, upd_same, f2, rfl⟩
    · rintro σ H' ⟨hs, hg, ys, v1, v2, v3, hl1, hy, rfl⟩
      rw [hlx] at hg hy
      exact ⟨_, rfl, k l ys H' hl (fun i m e => hg i m (List.getElem?_eq_some_iff.mp e).1 e) hs hl1 hy⟩
theorem ok_least_reach (T : Tx w K mg) : Prom P w K mg base CX0 1 "least_reach" s_least_reach ["pairs"] spLeast := by
  refine Prom.of T.d_least_reach sc_least_reach (fun vs H Q E h => ?_) (fun _ _ _ _ _ _ us hl => match us, hl with | [_], _ => rfl) (fun f cdv A outer s H vs Q E hr h => ?_)
  · obtain ⟨l, ys, ps, rfl, _⟩ := h
    rfl
  · obtain ⟨l, ys, ps, rfl, hl, hy, len, k⟩ := h
    have hyl := hy.len
    refine ⟨_, (pss_one (ps_ret (pe_callB (cr_min rfl) (by rfl) T.b_min (by decide +kernel) (pa_cons (pe_lst (pa_cons (pe_gint T.c_LAST_LENGTH) (StX.pa_star (pe_lc (own := [("place", 1), ("most", 2)]) (g := (gTup K 2 (gCons (gName 1) (gCons (gName 2) gNil)))) (tt := tYes) (by rfl) sc_least_reach.nd (pi_list (pv 0)) (blkOk_by (own := [("place", 1), ("most", 2)]) (N := ["pairs", "place", "most"]) (sc := defScope s_least_reach) (by decide +kernel)) (fun _ _ _ _ _ => (pg_tup rfl (pgs_cons (pg_name (i := 1) sc_least_reach.nd rfl (Or.inl rfl)) (pgs_cons (pg_name (i := 2) sc_least_reach.nd rfl (Or.inl rfl)) pgs_nil)))) (fun _ _ _ _ _ => pts_nil) (fun _ _ _ _ _ => (pv 2))) pa_nil))) pa_nil)))), ?_⟩
    refine ⟨_, rfl, l, rfl, ⟨_, SqL.of hl⟩, fun D hD => ?_⟩
    refine lc_list (K := K) (a := l) (xs := ys) (Pv := fun i H' => Same H H' ∧ H' D = some (.lst ((ps.take i).map fun z => V.int z.2))) ⟨up hD, upd_same⟩ (fun i H' _ h => SqL.of (h.1 _ _ hl)) ?_ ?_
    · rintro i x H' hi ⟨hs, hd⟩
      obtain ⟨u, a, rfl, ha, hu⟩ := hy.get hi
      have hil : i < ps.length := (List.getElem?_eq_some_iff.mp ha).1
      refine ⟨u, _, rfl, SqT.of (hs _ _ hu), rfl, _, _, rfl, _, _, rfl, rfl, rfl, _, rfl, _, hd, ?_, fun y o e => ?_, ?_⟩
      · rw [List.length_map, List.length_take, sizeLine_eq]
        omega
      · rw [upd_ne (ne_of_none e hD)]
        exact hs _ _ e
      · rw [upd_same, List.take_succ, ha, List.map_append]
        rfl
    · rintro H' ⟨hs, hd⟩
      rw [hyl, List.take_length] at hd
      refine ⟨D, _, rfl, .inr (SqL.of hd), ?_, fun l2 hl2 => ?_⟩
      · simp
        rw [sizeLine_eq]
        omega
      have el : V.int (10 ^ 60 - 1) :: (ps.map (fun z => V.int z.2) ++ []) = ((10 ^ 60 - 1) :: ps.map (·.2)).map V.int := by simp
      refine ⟨l2, (10 ^ 60 - 1) :: ps.map (·.2), rfl, SqL.of (by rw [← el]; exact upd_same), by simp, fun m hm hle => ?_⟩
      have e := leastL_eq hm hle
      rw [e]
      exact k _ (hs.trans (up hl2))
theorem ok_Road_greatest (T : Tx w K mg) : PromM P w K mg base CX0 8 "Road" "greatest" ["self"] (spGreatest K) := by
  refine PromM.of T.cl_Road T.me_Road_greatest T.dm_Road_greatest sc_Road_greatest (fun vs H Q E h => ?_) (fun _ _ _ _ _ _ us hl => match us, hl with | [_], _ => rfl) (fun f cdv A outer s H vs Q E hr h => ?_)
  · obtain ⟨r, ss, b, rfl, _⟩ := h
    rfl
  · obtain ⟨r, ss, b, rfl, hR, k⟩ := h
    obtain ⟨dx, t, q, xs, h1, h2, h3, h4⟩ := hR.at_
    have rl := reachL_len b ss ss.length
    have len := hR.len
    refine ⟨_, (pss_cons (ps_set (i := 1) sc_Road_greatest.nd rfl (Or.inl rfl) (pe_callP (ok_least_reach T) (hr.mono (by decide)) (by rfl) pass0 (pa_cons (pe_callP (ok_reaches T) (hr.mono (by decide)) (by rfl) pass0 (pa_cons (pe_fld (pv 0) rfl) (pa_cons (pe_fld (pv 0) rfl) pa_nil))) pa_nil)))
      (pss_one (ps_ret (pe_ifExp (pt_cmp (pc_lt (pv 1) pe_int)) pe_non (pv 1))))), ?_⟩
    refine ⟨_, rfl, r, _, dx, _, _, rfl, h1, T.cl_Road, T.na_Road_base, rfl, _, rfl, r, _, dx, _, _, rfl, h1, T.cl_Road, T.na_Road_steps, rfl, t, xs, ss, b, rfl, h2, h3, hR.rb, hR.len, hR.b0, hR.b1, fun l ys H1 nl ag s1 hl hy => ?_⟩
    refine ⟨l, ys, _, rfl, hl, hy, by omega, fun H2 s2 => ?_⟩
    have k2 := k H2 ag (s1.trans s2)
    refine ⟨_, rfl, _, _, rfl, rfl, _, rfl, ifd (fun c => ?_) (fun c => ?_)⟩
    · have c : leastL (reachL b ss ss.length) < 0 := c
      rw [if_pos c] at k2
      exact k2
    · have c : ¬ leastL (reachL b ss ss.length) < 0 := c
      rw [if_neg c] at k2
      exact ⟨_, rfl, k2⟩
end
/-! ### the law's bowl: what is drawn lies in its range, and nothing else is told of it -/
def PurseAt (H : Hp) (p : Addr) : Prop := ∃ d m c : Int, H p = some (.lst [.int d, .int m, .int c]) ∧ 0 ≤ d ∧ 0 ≤ m ∧ m < 1073741719 ∧ 0 ≤ c
theorem PurseAt.of {H : Hp} {p : Addr} {d m c : Int} (h : H p = some (.lst [.int d, .int m, .int c])) (h1 : 0 ≤ d) (h2 : 0 ≤ m) (h3 : m < 1073741719) (h4 : 0 ≤ c) : PurseAt H p := ⟨d, m, c, h, h1, h2, h3, h4⟩
structure Drew (p : Addr) (H H' : Hp) : Prop where
  at_ : PurseAt H' p
  kp : Kp p H H'
theorem Drew.refl {p : Addr} {H : Hp} (h : PurseAt H p) : Drew p H H := ⟨h, Kp.refl p H⟩
theorem Drew.trans {p : Addr} {H H1 H2 : Hp} (a : Drew p H H1) (b : Drew p H1 H2) : Drew p H H2 := ⟨b.at_, a.kp.trans b.kp⟩
theorem Drew.new {p q : Addr} {H H' : Hp} {o : HO} (a : Drew p H H') (h : H' q = none) : Drew p H (upd H' q o) := by
  obtain ⟨m, d, c, e, r⟩ := a.at_
  exact ⟨⟨m, d, c, by rw [upd_ne (ne_of_none e h)]; exact e, r⟩, a.kp.new h⟩
theorem Drew.same {p : Addr} {H H1 H2 : Hp} (a : Drew p H H1) (b : Same H1 H2) : Drew p H H2 := by
  obtain ⟨m, d, c, e, r⟩ := a.at_
  exact ⟨⟨m, d, c, b _ _ e, r⟩, fun x o n h => b _ _ (a.kp x o n h)⟩
def spRight : Sp := fun vs H Q _ => ∃ (p : Addr), vs = [.ref p] ∧ PurseAt H p ∧ ∀ H', Drew p H H' → Q (.bl true) H'
def spBowl (K : PySem.W.Frag) : Sp := fun vs H Q _ => ∃ (a : Addr) (ns : List Int) (k : Int), vs = [.ref a, .int k] ∧ SqL K H a (ns.map V.int) ∧ 0 ≤ k ∧ k ≤ 1000 ∧ ∀ p H', H p = none → Same H H' → PurseAt H' p → Q (.ref p) H'
def spTake : Sp := fun vs H Q _ => ∃ (p : Addr) (n : Int), vs = [.ref p, .int n] ∧ PurseAt H p ∧ 0 < n ∧ n ≤ 1000000000000000000000000000000 ∧ ∀ r H', 0 ≤ r → r < n → Drew p H H' → Q (.int r) H'
def spDraw (lo hi : Int) : Sp := fun vs H Q _ => ∃ (p : Addr), vs = [.ref p] ∧ PurseAt H p ∧ ∀ r H', lo ≤ r → r ≤ hi → Drew p H H' → Q (.int r) H'
/-- one of the things -/
def spOne : Sp := fun vs H Q _ => ∃ (p t : Addr) (xs : List V), vs = [.ref p, .ref t] ∧ PurseAt H p ∧ t ≠ p ∧ H t = some (.lst xs) ∧ 0 < xs.length ∧ xs.length ≤ 1000 ∧ ∀ (i : Nat) x H', xs[i]? = some x → Drew p H H' → Q x H'
theorem cutV_ints (ns : List Int) (lo hi : Option Int) : ∃ ms : List Int, cutV (ns.map V.int) lo hi = ms.map V.int := by
  unfold cutV
  exact ⟨_, by rw [← List.map_drop, ← List.map_take]⟩
theorem item_int {ns : List Int} {i : Nat} {x : V} (h : (ns.map V.int)[i]? = some x) : ∃ z, x = .int z := by
  rw [List.getElem?_map] at h
  cases e : ns[i]? with
  | none =>
    rw [e] at h
    cases h
  | some z =>
    rw [e] at h
    exact ⟨z, (Option.some.inj h).symm⟩
section
variable {P : Program} {w : World} {K : PySem.W.Frag} {mg : Str → Option Value} {base : Heap}
theorem ok_L_bowl (T : Tx w K mg) : Prom P w K mg base CX0 1 "_law_bowl" s_L_bowl ["_law_script", "_law_k"] (spBowl K) := by
  refine Prom.of T.d_L_bowl sc_L_bowl (fun vs H Q E h => ?_) (fun _ _ _ _ _ _ us hl => match us, hl with | [_, _], _ => rfl) (fun f cdv A outer s H vs Q E hr h => ?_)
  · obtain ⟨a, ns, n, rfl, _⟩ := h
    rfl
  · obtain ⟨a, ns, n, rfl, hS, h0, h1, k⟩ := h
    have d0 : (0 : Int) < 1073741719 := by decide
    refine ⟨_, (pss_cons (ps_set (i := 2) sc_L_bowl.nd rfl (Or.inl rfl) (pe_op op_add pe_int (pe_op op_mul pe_int (pv 1))))
      (pss_cons (ps_for PassesOwn.never (by rfl) (pi_list (pe_slice sl_list (pv 0) po_none (po_some pe_int))) (pg_name (i := 3) sc_L_bowl.nd rfl (Or.inl rfl)) (pss_one (ps_set (i := 2) sc_L_bowl.nd rfl (Or.inl rfl) (pe_op op_mod (pe_callTy call_int1 (by rfl) T.b_int (by decide +kernel) (pa_cons (pe_op op_add (pe_op op_mul (pv 2) pe_int) (pe_op op_mod (pe_callTy call_int1 (by rfl) T.b_int (by decide +kernel) (pa_cons (pv 3) pa_nil)) pe_int)) pa_nil)) pe_int))))
      (pss_cons (ps_set (i := 4) sc_L_bowl.nd rfl (Or.inl rfl) (pe_ifExp (pt_cmp (pc_lt (pv 1) (pe_callB call_len_seq (by rfl) T.b_len (by decide +kernel) (pa_cons (pv 0) pa_nil)))) (pe_callTy call_int1 (by rfl) T.b_int (by decide +kernel) (pa_cons (pe_ix ix_list (pv 0) (pv 1) (fun _ _ => rfl)) pa_nil)) (pe_op op_mul pe_int (pv 1))))
      (pss_one (ps_ret (pe_lst (pa_cons (pe_ifExp (PW.pt (pw_or (pt_cmp (pc_lt (pv 4) pe_int)) (pw_or1 (pt_cmp (pc_ge (pv 4) (pe_op op_pow pe_int pe_int)))))) (pe_callB call_abs (by rfl) T.b_abs (by decide +kernel) (pa_cons (pv 4) pa_nil)) pe_int) (pa_cons (pe_op op_mod (pe_callTy call_int1 (by rfl) T.b_int (by decide +kernel) (pa_cons (pe_op op_add (pv 2) (pe_op op_mod (pv 4) pe_int)) pa_nil)) pe_int) (pa_cons pe_int pa_nil))))))))), ?_⟩
    refine ⟨_, rfl, _, _, rfl, rfl, .inl ⟨by decide, by decide⟩, _, _, rfl, rfl, ?_⟩
    obtain ⟨ms, hms⟩ := cutV_ints ns none (some 12)
    refine ⟨_, rfl, _, rfl, a, _, rfl, hS, fun p hp => ?_⟩
    rw [hms]
    refine ⟨p, rfl, ⟨_, SqL.of upd_same⟩, for_list (K := K) (a := p) (xs := ms.map V.int) (fun i σ H' => Same (upd H p (.lst (ms.map V.int))) H' ∧ ∃ m v1 v2, σ = [some (.ref a), some (.int n), some (.int m), v1, v2]) ⟨Same.refl _, _, none, none, rfl⟩ (fun i σ H' _ h => SqL.of (h.1 _ _ upd_same)) ?_ ?_⟩
    · rintro i x σ H' hi ⟨hs, m, v1, v2, rfl⟩
      obtain ⟨z, rfl⟩ := item_int hi
      exact ⟨_, rfl, _, _, rfl, rfl, .inr ⟨by decide, by decide⟩, _, rfl, .inl ⟨_, rfl, _, _, rfl, rfl, d0, _, _, rfl, rfl, .inl ⟨_, rfl, _, _, rfl, rfl, d0, hs, _, _, _, rfl⟩⟩⟩
    · rintro σ H' ⟨hs, m, v1, v2, rfl⟩
      have hs0 : Same H H' := Same.trans (fun b o e => by rw [upd_ne (ne_of_none e hp)]; exact e) hs
      have hS' := hs0.seq hS
      have fin : ∀ d x : Int, 0 ≤ d → ∀ q, H' q = none → Q (.ref q) (upd H' q (.lst [.int d, .int (x % 1073741719), .int 0])) := fun d x hd q hq =>
        k q _ (by
          cases e : H q with
          | none => rfl
          | some o =>
            rw [hs0 _ _ e] at hq
            cases hq) (fun b o e => by rw [upd_ne (ne_of_none (hs0 _ _ e) hq)]; exact hs0 _ _ e) (PurseAt.of upd_same hd (Int.emod_nonneg _ (by decide)) (Int.emod_lt_of_pos _ d0) (Int.le_refl 0))
      have rest : ∀ own : Int, ∃ k : Bool, True := fun _ => ⟨true, trivial⟩
      refine ⟨_, rfl, _, rfl, _, _, rfl, .inl hS', _, _, rfl, rfl, _, rfl, ifd (fun c => ?_) (fun c => ?_)⟩
      · rw [List.length_map] at c
        have hi : n.toNat < ns.length := by omega
        obtain ⟨z, hz⟩ : ∃ z, ns[n.toNat]? = some z := ⟨_, List.getElem?_eq_getElem hi⟩
        have ez : (ns.map V.int)[n.toNat]? = some (V.int z) := by rw [List.getElem?_map, hz]; rfl
        refine ⟨_, rfl, _, rfl, _, _, _, _, rfl, rfl, hS', at_of (show n = ((n.toNat : Nat) : Int) by omega) ez, .inl ⟨_, rfl, ?_⟩⟩
        refine ⟨_, rfl, _, _, rfl, rfl, _, rfl, ifd (fun c1 => iteT ?_) (fun c1 => ?_)⟩
        · refine ⟨_, rfl, _, rfl, _, rfl, _, rfl, _, _, rfl, rfl, d0, _, _, rfl, rfl, .inl ⟨_, rfl, _, _, rfl, rfl, d0, (by show 3 ≤ sizeLine; decide), fun q hq => fin _ _ ?_ q hq⟩⟩
          split <;> omega
        refine ⟨_, rfl, _, _, rfl, rfl, ⟨by decide, by decide, by decide⟩, _, _, rfl, rfl, _, rfl, ifd (fun c2 => ?_) (fun c2 => ?_)⟩
        · refine ⟨_, rfl, _, rfl, _, rfl, _, rfl, _, _, rfl, rfl, d0, _, _, rfl, rfl, .inl ⟨_, rfl, _, _, rfl, rfl, d0, (by show 3 ≤ sizeLine; decide), fun q hq => fin _ _ ?_ q hq⟩⟩
          split <;> omega
        · exact ⟨_, rfl, _, rfl, _, _, rfl, rfl, d0, _, _, rfl, rfl, .inl ⟨_, rfl, _, _, rfl, rfl, d0, (by show 3 ≤ sizeLine; decide), fun q hq => fin 0 _ (Int.le_refl 0) q hq⟩⟩
      · refine ⟨_, rfl, _, _, rfl, rfl, .inl ⟨by decide, by decide⟩, ?_⟩
        refine ⟨_, rfl, _, _, rfl, rfl, _, rfl, ifd (fun c1 => iteT ?_) (fun c1 => ?_)⟩
        · refine ⟨_, rfl, _, rfl, _, rfl, _, rfl, _, _, rfl, rfl, d0, _, _, rfl, rfl, .inl ⟨_, rfl, _, _, rfl, rfl, d0, (by show 3 ≤ sizeLine; decide), fun q hq => fin _ _ ?_ q hq⟩⟩
          split <;> omega
        refine ⟨_, rfl, _, _, rfl, rfl, ⟨by decide, by decide, by decide⟩, _, _, rfl, rfl, _, rfl, ifd (fun c2 => ?_) (fun c2 => ?_)⟩
        · refine ⟨_, rfl, _, rfl, _, rfl, _, rfl, _, _, rfl, rfl, d0, _, _, rfl, rfl, .inl ⟨_, rfl, _, _, rfl, rfl, d0, (by show 3 ≤ sizeLine; decide), fun q hq => fin _ _ ?_ q hq⟩⟩
          split <;> omega
        · exact ⟨_, rfl, _, rfl, _, _, rfl, rfl, d0, _, _, rfl, rfl, .inl ⟨_, rfl, _, _, rfl, rfl, d0, (by show 3 ≤ sizeLine; decide), fun q hq => fin 0 _ (Int.le_refl 0) q hq⟩⟩
theorem ok_L_scoop (T : Tx w K mg) : Prom P w K mg base CX0 1 "_law_scoop" s_L_scoop ["_law_bowl_here", "_law_many"] spTake := by
  refine Prom.of T.d_L_scoop sc_L_scoop (fun vs H Q E h => ?_) (fun _ _ _ _ _ _ us hl => match us, hl with | [_, _], _ => rfl) (fun f cdv A outer s H vs Q E hr h => ?_)
  · obtain ⟨p, n, rfl, _⟩ := h
    rfl
  · obtain ⟨p, n, rfl, ⟨d, m, c, hp, h1, h2, h3, h4⟩, hn, hn2, k⟩ := h
    refine ⟨_, (pss_cons (ps_if (pt_cmp (pc_gt (pe_ix ix_list (pv 0) pe_int (fun _ _ => rfl)) pe_int)) (pss_cons (ps_asg (pe_callB call_divmodW (by rfl) T.b_divmod (by decide +kernel) (pa_cons (pe_callTy call_int1 (by rfl) T.b_int (by decide +kernel) (pa_cons (pe_ix ix_list (pv 0) pe_int (fun _ _ => rfl)) pa_nil)) (pa_cons (pv 1) pa_nil))) (pg_tup rfl (pgs_cons (pg_sub (pv 0) pe_int set_list) (pgs_cons (pg_name (i := 2) sc_L_scoop.nd rfl (Or.inl rfl)) pgs_nil))))
      (pss_one (ps_ret (pv 2)))) pss_nil)
      (pss_cons (ps_asg (pe_op op_add (pe_ix ix_list (pv 0) pe_int (fun _ _ => rfl)) pe_int) (pg_sub (pv 0) pe_int set_list))
      (pss_cons (ps_asg (pe_op op_mod (pe_callTy call_int1 (by rfl) T.b_int (by decide +kernel) (pa_cons (pe_op op_add (pe_op op_add (pe_op op_mul (pe_ix ix_list (pv 0) pe_int (fun _ _ => rfl)) pe_int) (pe_op op_mul (pe_op op_fdiv (pe_ix ix_list (pv 0) pe_int (fun _ _ => rfl)) pe_int) pe_int)) (pe_op op_mul pe_int (pe_ix ix_list (pv 0) pe_int (fun _ _ => rfl)))) pa_nil)) pe_int) (pg_sub (pv 0) pe_int set_list))
      (pss_one (ps_ret (pe_op op_mod (pe_callTy call_int1 (by rfl) T.b_int (by decide +kernel) (pa_cons (pe_op op_fdiv (pe_ix ix_list (pv 0) pe_int (fun _ _ => rfl)) pe_int) pa_nil)) (pv 1))))))), ?_⟩
    refine ⟨_, rfl, _, _, _, _, rfl, rfl, SqL.of hp, rfl, _, _, rfl, rfl, _, rfl, ifd (fun c1 => ?_) (fun c1 => ?_)⟩
    · refine ⟨_, rfl, _, _, _, _, rfl, rfl, SqL.of hp, rfl, .inl ⟨_, rfl, _, rfl, _, _, rfl, divp_small hn hn2, fun q hq => ?_⟩⟩
      have nq : p ≠ q := ne_of_none hp hq
      refine ⟨q, _, rfl, SqT.of upd_same, rfl, _, _, rfl, ?_⟩
      refine ⟨_, rfl, _, _, _, _, rfl, rfl, (by rw [upd_ne nq]; exact hp), rfl, ?_⟩
      refine ⟨_, _, rfl, rfl, ?_⟩
      refine ⟨_, rfl, k _ _ (Int.emod_nonneg _ (by omega)) (Int.emod_lt_of_pos _ hn) ⟨PurseAt.of upd_same (Int.ediv_nonneg (by omega) (by omega)) h2 h3 h4, ?_⟩⟩
      exact Kp.set (Kp.new (Kp.refl p H) hq)
    · refine ⟨_, rfl, _, _, _, _, rfl, rfl, SqL.of hp, rfl, _, _, rfl, rfl, _, rfl, _, _, _, _, rfl, rfl, hp, rfl, ?_⟩
      have e1 : (upd H p (.lst ([V.int d, V.int m, V.int c].set 2 (V.int (c + 1))))) p = some (.lst [.int d, .int m, .int (c + 1)]) := upd_same
      refine ⟨_, rfl, _, _, _, _, rfl, rfl, SqL.of e1, rfl, _, _, rfl, rfl, .inr ⟨by decide, by decide⟩, _, rfl, _, _, _, _, rfl, rfl, SqL.of e1, rfl, _, _, rfl, rfl, ⟨by decide, by decide⟩, _, _, rfl, rfl, .inr ⟨by decide, by decide⟩, _, _, rfl, rfl,
        _, rfl, _, _, _, _, rfl, rfl, SqL.of e1, rfl, _, _, rfl, rfl, .inl ⟨by decide, by decide⟩, _, _, rfl, rfl, .inl ⟨_, rfl, _, _, rfl, rfl, (show (0 : Int) < 1073741719 by decide), ?_⟩⟩
      refine ⟨_, rfl, _, _, _, _, rfl, rfl, e1, rfl, ?_⟩
      have c2 : ∀ x : Int, 0 ≤ x % 1073741719 := fun x => Int.emod_nonneg _ (by decide)
      have c3 : ∀ x : Int, x % 1073741719 < 1073741719 := fun x => Int.emod_lt_of_pos _ (by decide)
      refine ⟨_, rfl, _, _, _, _, rfl, rfl, SqL.of upd_same, rfl, _, _, rfl, rfl, ⟨by decide, by decide⟩, .inl ⟨_, rfl, _, rfl, _, _, rfl, rfl, hn, ?_⟩⟩
      refine k _ _ (Int.emod_nonneg _ (by omega)) (Int.emod_lt_of_pos _ hn) ⟨PurseAt.of upd_same h1 (c2 _) (c3 _) (by omega), ?_⟩
      exact Kp.set (Kp.set (Kp.refl p H))
theorem ok_L_one_of (T : Tx w K mg) : Prom P w K mg base CX0 2 "_law_one_of" s_L_one_of ["_law_bowl_here", "_law_things"] spOne := by
  refine Prom.of T.d_L_one_of sc_L_one_of (fun vs H Q E h => ?_) (fun _ _ _ _ _ _ us hl => match us, hl with | [_, _], _ => rfl) (fun f cdv A outer s H vs Q E hr h => ?_)
  · obtain ⟨p, t, xs, rfl, _⟩ := h
    rfl
  · obtain ⟨p, t, xs, rfl, hp, nt, ht, l0, l1, k⟩ := h
    refine ⟨_, (pss_one (ps_ret (pe_ix ix_list (pv 1) (pe_callP (ok_L_scoop T) (hr.mono (by decide)) (by rfl) pass0 (pa_cons (pv 0) (pa_cons (pe_callB call_len_seq (by rfl) T.b_len (by decide +kernel) (pa_cons (pv 1) pa_nil)) pa_nil))) (fun _ _ => rfl)))), ?_⟩
    refine ⟨_, rfl, _, rfl, _, rfl, t, xs, rfl, .inl (SqL.of ht), p, _, rfl, hp, by omega, by omega, fun r H' r0 r1 d => ?_⟩
    have hi : r.toNat < xs.length := by omega
    have ht' := d.kp _ _ nt ht
    have hx : xs[r.toNat]? = some xs[r.toNat] := List.getElem?_eq_getElem hi
    exact ⟨t, xs, _, _, rfl, rfl, SqL.of ht', at_of (show r = ((r.toNat : Nat) : Int) by omega) hx, k _ _ H' hx d⟩
end
section
variable {P : Program} {w : World} {K : PySem.W.Frag} {mg : Str → Option Value} {base : Heap}
theorem drew_one {p t : Addr} {H H1 H2 : Hp} {o : HO} (a : Drew p H H1) (ht : H1 t = none) (b : Drew p (upd H1 t o) H2) : Drew p H H2 := (a.new ht).trans b
theorem Drew.ne {p t : Addr} {H H1 : Hp} (a : Drew p H H1) (ht : H1 t = none) : t ≠ p := by
  obtain ⟨_, _, _, e, _⟩ := a.at_
  exact Ne.symm (ne_of_none e ht)
theorem Drew.seq {p l : Addr} {H H1 : Hp} {xs : List V} (a : Drew p H H1) (h : H l = some (.lst xs)) (n : l ≠ p) : H1 l = some (.lst xs) := a.kp _ _ n h
theorem Drew.wrap {p q : Addr} {H H1 : Hp} {x : Wr} (a : Drew p H H1) (hp : PurseAt H p) (h : WrapAt K H q x) : WrapAt K H1 q x := by
  obtain ⟨dx, t, h1, h2⟩ := h
  obtain ⟨_, _, _, e, _⟩ := hp
  refine ⟨dx, t, a.kp _ _ (fun z => ?_) h1, a.kp _ _ (fun z => ?_) h2⟩
  · rw [z, e] at h1
    cases h1
  · rw [z, e] at h2
    cases h2
theorem ok_L_root (T : Tx w K mg) : Prom P w K mg base CX0 3 "_law_root" s_L_root ["_law_bowl_here"] (spDraw 2 256) := by
  refine Prom.of T.d_L_root sc_L_root (fun vs H Q E h => ?_) (fun _ _ _ _ _ _ us hl => match us, hl with | [_], _ => rfl) (fun f cdv A outer s H vs Q E hr h => ?_)
  · obtain ⟨p, rfl, _⟩ := h
    rfl
  · obtain ⟨p, rfl, hp, k⟩ := h
    refine ⟨_, (pss_one (ps_ret (pe_callP (ok_L_one_of T) (hr.mono (by decide)) (by rfl) pass0 (pa_cons (pv 0) (pa_cons (pe_lst (pa_cons pe_int (pa_cons pe_int (pa_cons pe_int (pa_cons pe_int (pa_cons pe_int (pa_cons pe_int (pa_cons pe_int (pa_cons (pe_op op_add pe_int (pe_callP (ok_L_scoop T) (hr.mono (by decide)) (by rfl) pass0 (pa_cons (pv 0) (pa_cons pe_int pa_nil)))) pa_nil))))))))) pa_nil))))), ?_⟩
    refine ⟨_, rfl, _, rfl, p, _, rfl, hp, by decide, by decide, fun r H1 r0 r1 d1 => ?_⟩
    refine ⟨_, _, rfl, rfl, (by show 8 ≤ sizeLine; decide), fun t ht => ?_⟩
    refine ⟨p, t, _, rfl, (d1.new ht).at_, d1.ne ht, upd_same, (show 0 < 8 by decide), (show 8 ≤ 1000 by decide), fun i x H2 hx d2 => ?_⟩
    have d := drew_one d1 ht d2
    have fin : ∀ y : Int, 2 ≤ y → y ≤ 256 → x = .int y → Q x H2 := fun y h1 h2 e => by
      rw [e]
      exact k y H2 h1 h2 d
    match i, hx with
    | 0, hx => exact fin 10 (by decide) (by decide) (Option.some.inj hx).symm
    | 1, hx => exact fin 10 (by decide) (by decide) (Option.some.inj hx).symm
    | 2, hx => exact fin 2 (by decide) (by decide) (Option.some.inj hx).symm
    | 3, hx => exact fin 16 (by decide) (by decide) (Option.some.inj hx).symm
    | 4, hx => exact fin 128 (by decide) (by decide) (Option.some.inj hx).symm
    | 5, hx => exact fin 256 (by decide) (by decide) (Option.some.inj hx).symm
    | 6, hx => exact fin 3 (by decide) (by decide) (Option.some.inj hx).symm
    | 7, hx => exact fin (2 + r) (by omega) (by omega) (Option.some.inj hx).symm
    | n + 8, hx => exact absurd hx (by simp)
end
section
variable {P : Program} {w : World} {K : PySem.W.Frag} {mg : Str → Option Value} {base : Heap}
def spFig2 : Sp := fun vs H Q _ => ∃ n b : Int, vs = [.int n, .int b] ∧ 2 ≤ b ∧ b ≤ 256 ∧ Q (.int (figF b n)) H
theorem ok_L_figures (T : Tx w K mg) : Prom P w K mg base CX0 1 "_law_figures" s_L_figures ["_law_n", "_law_root_here"] spFig2 := by
  refine Prom.of T.d_L_figures sc_L_figures (fun vs H Q E h => ?_) (fun _ _ _ _ _ _ us hl => match us, hl with | [_, _], _ => rfl) (fun f cdv A outer s H vs Q E hr h => ?_)
  · obtain ⟨n, b, rfl, _⟩ := h
    rfl
  · obtain ⟨n, b, rfl, hb, hb2, k⟩ := h
    refine ⟨_, (pss_cons (ps_set (i := 2) sc_L_figures.nd rfl (Or.inl rfl) pe_int)
      (pss_cons (ps_while PassesOwn.never (pt_cmp (pc_ge (pv 0) (pv 1))) (pss_one (ps_par (i := 0) (j := 2) (by rfl) sc_L_figures.nd rfl rfl (by decide) rfl rfl (pa_cons (pe_op op_fdiv (pv 0) (pv 1)) (pa_cons (pe_op op_add (pv 2) pe_int) pa_nil)) (by rfl))))
      (pss_one (ps_ret (pv 2))))), ?_⟩
    refine ⟨fun m σ H2 => H2 = H ∧ ∃ (j : Nat), σ = [some (.int (n / b ^ j)), some (.int b), some (.int ((j : Int) + 1))] ∧ (j = 0 ∨ b ^ j ≤ n) ∧ m = (n / b ^ j).toNat,
      ⟨_, rfl, 0, by rw [Int.pow_zero, Int.ediv_one]; rfl, .inl rfl, rfl⟩, ?_⟩
    rintro m σ H2 ⟨rfl, j, rfl, hj, hm⟩
    have p1 := pow_pos (show 1 ≤ b by omega) j
    refine ⟨_, rfl, _, rfl, _, _, rfl, rfl, _, rfl, ifd (fun c => ?_) (fun c => ?_)⟩
    · have c : b ≤ n / b ^ j := c
      refine ⟨_, fun σ' H' h => h, ?_⟩
      refine ⟨_, rfl, _, rfl, _, _, rfl, rfl, ⟨by omega, by omega⟩, _, rfl, _, _, rfl, rfl, _, _, rfl, ?_⟩
      have e1 : n / b ^ j / b = n / b ^ (j + 1) := by rw [Int.pow_succ, Int.ediv_ediv_of_nonneg (by omega)]
      have lt : n / b ^ j / b < n / b ^ j := Int.ediv_lt_self_of_pos_of_ne_one (by omega) (by omega)
      have ge : 0 ≤ n / b ^ j / b := Int.ediv_nonneg (by omega) (by omega)
      refine ⟨_, ?_, rfl, j + 1, ?_, .inr ?_, rfl⟩
      · rw [hm, ← e1]
        omega
      · show [some (V.int (n / b ^ j / b)), some (V.int b), some (V.int ((j : Int) + 1 + 1))] = _
        rw [e1]
        have e : (j : Int) + 1 + 1 = ((j + 1 : Nat) : Int) + 1 := by omega
        rw [e]
      · rw [Int.pow_succ]
        have := Int.mul_le_of_le_ediv (show 0 < b ^ j by omega) c
        rw [Int.mul_comm] at this
        exact this
    · have c : ¬ b ≤ n / b ^ j := c
      have isf : IsF b n ((j : Int) + 1) := by
        refine ⟨j, rfl, ?_, hj⟩
        have := Int.lt_mul_of_ediv_lt (show 0 < b ^ j by omega) (show n / b ^ j < b by omega)
        rw [Int.pow_succ, Int.mul_comm]
        exact this
      have e := figF_eq hb isf
      rw [← e] at k
      exact ⟨_, rfl, k⟩
end
set_option pp.maxSteps 900
/-! ### plans: a wrap as a list of its kind and its numbers -/
def PlanAt (H : Hp) (q : Addr) (a : Wr) : Prop := H q = some (.lst (V.str a.kind :: a.nums.map V.int))
inductive PlansAt (H : Hp) : List V → List Wr → Prop where
  | nil : PlansAt H [] []
  | cons {p : Addr} {a : Wr} {xs : List V} {ws : List Wr} (h : PlanAt H p a) (r : PlansAt H xs ws) : PlansAt H (.ref p :: xs) (a :: ws)
theorem PlansAt.len {H : Hp} {xs : List V} {ws : List Wr} (h : PlansAt H xs ws) : xs.length = ws.length := by
  induction h with
  | nil => rfl
  | cons _ _ ih => exact congrArg (· + 1) ih
theorem PlansAt.get {H : Hp} {xs : List V} {ws : List Wr} (h : PlansAt H xs ws) : ∀ {i : Nat} {x : V}, xs[i]? = some x → ∃ (p : Addr) (a : Wr), x = .ref p ∧ ws[i]? = some a ∧ PlanAt H p a := by
  induction h with
  | nil =>
    intro i x e
    simp at e
  | cons h _ ih =>
    intro i x e
    cases i with
    | zero =>
      simp at e
      exact ⟨_, _, e.symm, rfl, h⟩
    | succ i => exact ih (by simpa using e)
theorem PlansAt.same {H H' : Hp} {xs : List V} {ws : List Wr} (h : PlansAt H xs ws) (s : Same H H') : PlansAt H' xs ws := by
  induction h with
  | nil => exact .nil
  | cons h _ ih => exact .cons (s _ _ h) ih
theorem PlansAt.snoc {H : Hp} {xs : List V} {ws : List Wr} {p : Addr} {a : Wr} (h : PlansAt H xs ws) (hx : PlanAt H p a) : PlansAt H (xs ++ [.ref p]) (ws ++ [a]) := by
  induction h with
  | nil => exact .cons hx .nil
  | cons h _ ih => exact .cons h ih
theorem PlansAt.drop {H : Hp} {xs : List V} {ws : List Wr} (h : PlansAt H xs ws) : ∀ i : Nat, PlansAt H (xs.drop i) (ws.drop i) := by
  induction h with
  | nil => intro i; simp; exact .nil
  | cons h r ih =>
    intro i
    cases i with
    | zero => exact .cons h r
    | succ i => exact ih i
/-- what differs from the bowl and the list stays -/
theorem PlansAt.kp {H H' : Hp} {xs : List V} {ws : List Wr} (h : PlansAt H xs ws) (k : ∀ p a, PlanAt H p a → V.ref p ∈ xs → PlanAt H' p a) : PlansAt H' xs ws := by
  induction h with
  | nil => exact .nil
  | cons h _ ih => exact .cons (k _ _ h (List.mem_cons_self ..)) (ih fun p a hp hm => k p a hp (List.mem_cons_of_mem _ hm))
/-- str of a text or a number -/
def strV : V → Option Str
  | .str y => some y
  | .int i => if i.natAbs.log2 < 1920 then some (toString i) else none
  | _ => none
theorem cr_strV {X : Cx} : CallR X (.type "str") (fun xs H Q => ∃ v z, xs = [v] ∧ strV v = some z ∧ Q (.str z) H) := by
  intro pins s σ H xs us Q I r h
  obtain ⟨v, z, rfl, hz, q⟩ := h
  cases v with
  | str y =>
    obtain rfl : y = z := Option.some.inj hz
    exact SkE.call_str_str pins s σ H _ us Q I r ⟨y, rfl, q⟩
  | int i =>
    by_cases c : i.natAbs.log2 < 1920
    · have hz2 : (if i.natAbs.log2 < 1920 then some (toString i : Str) else none) = some z := hz
      rw [if_pos c] at hz2
      obtain rfl := Option.some.inj hz2
      exact call_str_int pins s σ H _ us Q I r ⟨i, rfl, c, q⟩
    · have hz2 : (if i.natAbs.log2 < 1920 then some (toString i : Str) else none) = some z := hz
      rw [if_neg c] at hz2
      cases hz2
  | _ => cases hz
def spSmall : Sp := fun vs H Q _ => ∃ (p : Addr) (m : Int), vs = [.ref p, .int m] ∧ PurseAt H p ∧ 0 ≤ m ∧ m ≤ 1000 ∧ ∀ r H', 0 ≤ r → Drew p H H' → Q (.int r) H'
def spPlan : Sp := fun vs H Q _ => ∃ (p : Addr) (r : Int), vs = [.ref p, .int r] ∧ PurseAt H p ∧ 1 ≤ r ∧ r ≤ 120 ∧ ∀ q a H', a.ok → a.use ≤ r → H q = none → Drew p H H' → PlanAt H' q a → Q (.ref q) H'
def spFineP : Sp := fun vs H Q _ => ∃ (q : Addr) (a : Wr), vs = [.ref q] ∧ PlanAt H q a ∧ a.ok ∧ ∀ H', Same H H' → Q (.int a.use) H'
def spWrapP (K : PySem.W.Frag) : Sp := fun vs H Q _ => ∃ (q : Addr) (a : Wr), vs = [.ref q] ∧ PlanAt H q a ∧ a.ok ∧ ∀ r H', H r = none → Same H H' → WrapAt K H' r a → Q (.ref r) H'
def spWordsP : Sp := fun vs H Q _ => ∃ (q : Addr) (a : Wr), vs = [.ref q] ∧ PlanAt H q a ∧ a.ok ∧ ∀ H', Same H H' → Q (.str a.text) H'
def spRowsP : Sp := fun vs H Q _ => ∃ (l : Addr) (b : Int) (xs : List V) (ws : List Wr), vs = [.int b, .ref l] ∧ H l = some (.lst xs) ∧ PlansAt H xs ws ∧ StkOk b ws ∧ ∀ H', Same H H' → Q (.str (stkText b ws)) H'
section
variable {P : Program} {w : World} {K : PySem.W.Frag} {mg : Str → Option Value} {base : Heap}
theorem ok_L_small (T : Tx w K mg) : Prom P w K mg base CX0 3 "_law_small" s_L_small ["_law_bowl_here", "_law_most"] spSmall := by
  refine Prom.of T.d_L_small sc_L_small (fun vs H Q E h => ?_) (fun _ _ _ _ _ _ us hl => match us, hl with | [_, _], _ => rfl) (fun f cdv A outer s H vs Q E hr h => ?_)
  · obtain ⟨p, m, rfl, _⟩ := h
    rfl
  · obtain ⟨p, m, rfl, hp, m0, m1, k⟩ := h
    refine ⟨_, (pss_one (ps_ret (pe_callP (ok_L_one_of T) (hr.mono (by decide)) (by rfl) pass0 (pa_cons (pv 0) (pa_cons (pe_lst (pa_cons pe_int (pa_cons pe_int (pa_cons pe_int (pa_cons pe_int (pa_cons (pe_callP (ok_L_scoop T) (hr.mono (by decide)) (by rfl) pass0 (pa_cons (pv 0) (pa_cons pe_int pa_nil))) (pa_cons (pv 1) (pa_cons (pe_callP (ok_L_scoop T) (hr.mono (by decide)) (by rfl) pass0 (pa_cons (pv 0) (pa_cons (pe_op op_add (pv 1) pe_int) pa_nil))) pa_nil)))))))) pa_nil))))), ?_⟩
    refine ⟨_, rfl, _, rfl, p, _, rfl, hp, by decide, by decide, fun r H1 r0 r1 d1 => ?_⟩
    refine ⟨_, rfl, _, rfl, _, rfl, _, _, rfl, rfl, p, _, rfl, d1.at_, by omega, by omega, fun r2 H2 r20 r21 d2 => ?_⟩
    have d2 := d1.trans d2
    refine ⟨(by show 7 ≤ sizeLine; decide), fun t ht => ?_⟩
    refine ⟨p, t, _, rfl, (d2.new ht).at_, d2.ne ht, upd_same, (show 0 < 7 by decide), (show 7 ≤ 1000 by decide), fun i x H3 hx d3 => ?_⟩
    have d := drew_one d2 ht d3
    have fin : ∀ y : Int, 0 ≤ y → x = .int y → Q x H3 := fun y h1 e => by
      rw [e]
      exact k y H3 h1 d
    match i, hx with
    | 0, hx => exact fin 0 (by decide) (Option.some.inj hx).symm
    | 1, hx => exact fin 1 (by decide) (Option.some.inj hx).symm
    | 2, hx => exact fin 2 (by decide) (Option.some.inj hx).symm
    | 3, hx => exact fin 3 (by decide) (Option.some.inj hx).symm
    | 4, hx => exact fin r r0 (Option.some.inj hx).symm
    | 5, hx => exact fin m m0 (Option.some.inj hx).symm
    | 6, hx => exact fin r2 r20 (Option.some.inj hx).symm
    | n + 7, hx => exact absurd hx (by simp)
theorem ok_L_fine (T : Tx w K mg) : Prom P w K mg base CX0 1 "_law_fine" s_L_fine ["_law_plan_here"] spFineP := by
  refine Prom.of T.d_L_fine sc_L_fine (fun vs H Q E h => ?_) (fun _ _ _ _ _ _ us hl => match us, hl with | [_], _ => rfl) (fun f cdv A outer s H vs Q E hr h => ?_)
  · obtain ⟨q, a, rfl, _⟩ := h
    rfl
  · obtain ⟨q, a, rfl, hq, ok, k⟩ := h
    have hq : H q = _ := hq
    refine ⟨_, (pss_cons (ps_if (pt_cmpR op_eq (pe_ix ix_list (pv 0) pe_int (fun _ _ => rfl)) pe_str (nomark _)) (pss_one (ps_ret (pe_op op_mul (pe_ix ix_list (pv 0) pe_int (fun _ _ => rfl)) (pe_ix ix_list (pv 0) pe_int (fun _ _ => rfl))))) pss_nil)
      (pss_one (ps_ret (pe_ifExp (pt_cmpR op_in_seq (pe_ix ix_list (pv 0) pe_int (fun _ _ => rfl)) (pe_lst (pa_cons pe_str (pa_cons pe_str (pa_cons pe_str pa_nil)))) (by rfl)) (pe_ix ix_list (pv 0) pe_int (fun _ _ => rfl)) pe_int)))), ?_⟩
    refine ⟨_, rfl, q, _, _, .str a.kind, rfl, rfl, SqL.of hq, at_of (j := 0) rfl rfl, rfl, _, rfl, ?_⟩
    cases a with
    | coded m c =>
      simp only [Wr.ok] at ok
      exact ifd_pos rfl ⟨_, rfl, q, _, _, .int m, rfl, rfl, SqL.of hq, at_of (j := 1) rfl rfl, _, rfl, q, _, _, .int c, rfl, rfl, SqL.of hq, at_of (j := 2) rfl rfl, _, _, rfl, rfl, .inl ⟨by omega, by omega⟩, k _ (Same.refl _)⟩
    | plus c =>
      refine ifs_neg (show ("plus" : Str) ≠ "coded" by decide) ⟨_, rfl, q, _, _, .str "plus", rfl, rfl, SqL.of hq, at_of (j := 0) rfl rfl, (by show 3 ≤ sizeLine; decide), fun l hl => ?_⟩
      exact ⟨l, _, rfl, .inl (SqL.of upd_same), rfl, rfl, _, rfl, ifb_neg (by kernel_rfl) (k _ (up hl))⟩
    | told c =>
      refine ifs_neg (show ("told" : Str) ≠ "coded" by decide) ⟨_, rfl, q, _, _, .str "told", rfl, rfl, SqL.of hq, at_of (j := 0) rfl rfl, (by show 3 ≤ sizeLine; decide), fun l hl => ?_⟩
      exact ⟨l, _, rfl, .inl (SqL.of upd_same), rfl, rfl, _, rfl, ifb_neg (by kernel_rfl) (k _ (up hl))⟩
    | whole c =>
      refine ifs_neg (show ("whole" : Str) ≠ "coded" by decide) ⟨_, rfl, q, _, _, .str "whole", rfl, rfl, SqL.of hq, at_of (j := 0) rfl rfl, (by show 3 ≤ sizeLine; decide), fun l hl => ?_⟩
      exact ⟨l, _, rfl, .inl (SqL.of upd_same), rfl, rfl, _, rfl, ifb_neg (by kernel_rfl) (k _ (up hl))⟩
    | pieces m c =>
      refine ifs_neg (show ("pieces" : Str) ≠ "coded" by decide) ⟨_, rfl, q, _, _, .str "pieces", rfl, rfl, SqL.of hq, at_of (j := 0) rfl rfl, (by show 3 ≤ sizeLine; decide), fun l hl => ?_⟩
      exact ⟨l, _, rfl, .inl (SqL.of upd_same), rfl, rfl, _, rfl, ifb_pos (by kernel_rfl) ⟨_, rfl, q, _, _, .int m, rfl, rfl, SqL.of (up hl _ _ hq), at_of (j := 1) rfl rfl, k _ (up hl)⟩⟩
    | cut m c =>
      refine ifs_neg (show ("cut" : Str) ≠ "coded" by decide) ⟨_, rfl, q, _, _, .str "cut", rfl, rfl, SqL.of hq, at_of (j := 0) rfl rfl, (by show 3 ≤ sizeLine; decide), fun l hl => ?_⟩
      exact ⟨l, _, rfl, .inl (SqL.of upd_same), rfl, rfl, _, rfl, ifb_pos (by kernel_rfl) ⟨_, rfl, q, _, _, .int m, rfl, rfl, SqL.of (up hl _ _ hq), at_of (j := 1) rfl rfl, k _ (up hl)⟩⟩
    | filled m =>
      refine ifs_neg (show ("filled" : Str) ≠ "coded" by decide) ⟨_, rfl, q, _, _, .str "filled", rfl, rfl, SqL.of hq, at_of (j := 0) rfl rfl, (by show 3 ≤ sizeLine; decide), fun l hl => ?_⟩
      exact ⟨l, _, rfl, .inl (SqL.of upd_same), rfl, rfl, _, rfl, ifb_pos (by kernel_rfl) ⟨_, rfl, q, _, _, .int m, rfl, rfl, SqL.of (up hl _ _ hq), at_of (j := 1) rfl rfl, k _ (up hl)⟩⟩
theorem ok_L_wrap (T : Tx w K mg) : Prom P w K mg base CX0 6 "_law_wrap" s_L_wrap ["_law_plan_here"] (spWrapP K) := by
  refine Prom.of T.d_L_wrap sc_L_wrap (fun vs H Q E h => ?_) (fun _ _ _ _ _ _ us hl => match us, hl with | [_], _ => rfl) (fun f cdv A outer s H vs Q E hr h => ?_)
  · obtain ⟨q, a, rfl, _⟩ := h
    rfl
  · obtain ⟨q, a, rfl, hq, ok, k⟩ := h
    have hq : H q = _ := hq
    refine ⟨_, (pss_one (ps_ret (pe_ifExp (pt_cmp (pc_eqI (pe_callB call_len_seq (by rfl) T.b_len (by decide +kernel) (pa_cons (pv 0) pa_nil)) pe_int)) (pe_newP (ok_Wrap T) (hr.mono (by decide)) (by rfl) pass0 (pa_cons (pe_ix ix_list (pv 0) pe_int (fun _ _ => rfl)) (pa_cons (pe_ix ix_list (pv 0) pe_int (fun _ _ => rfl)) pa_nil))) (pe_newP (ok_Wrap T) (hr.mono (by decide)) (by rfl) pass0 (pa_cons (pe_ix ix_list (pv 0) pe_int (fun _ _ => rfl)) (pa_cons (pe_ix ix_list (pv 0) pe_int (fun _ _ => rfl)) (pa_cons (pe_ix ix_list (pv 0) pe_int (fun _ _ => rfl)) pa_nil))))))), ?_⟩
    refine ⟨_, rfl, q, _, rfl, .inl (SqL.of hq), _, _, rfl, rfl, _, rfl, ?_⟩
    cases a with
    | plus c => exact ifd_pos rfl ⟨_, rfl, q, _, _, .str "plus", rfl, rfl, SqL.of hq, at_of (j := 0) rfl rfl, _, rfl, q, _, _, .int c, rfl, rfl, SqL.of hq, at_of (j := 1) rfl rfl, Wr.plus c, rfl, ok, k⟩
    | told c => exact ifd_pos rfl ⟨_, rfl, q, _, _, .str "told", rfl, rfl, SqL.of hq, at_of (j := 0) rfl rfl, _, rfl, q, _, _, .int c, rfl, rfl, SqL.of hq, at_of (j := 1) rfl rfl, Wr.told c, rfl, ok, k⟩
    | whole c => exact ifd_pos rfl ⟨_, rfl, q, _, _, .str "whole", rfl, rfl, SqL.of hq, at_of (j := 0) rfl rfl, _, rfl, q, _, _, .int c, rfl, rfl, SqL.of hq, at_of (j := 1) rfl rfl, Wr.whole c, rfl, ok, k⟩
    | filled c => exact ifd_pos rfl ⟨_, rfl, q, _, _, .str "filled", rfl, rfl, SqL.of hq, at_of (j := 0) rfl rfl, _, rfl, q, _, _, .int c, rfl, rfl, SqL.of hq, at_of (j := 1) rfl rfl, Wr.filled c, rfl, ok, k⟩
    | pieces m c => exact ifd_neg (show ¬ ((3 : Nat) : Int) = 2 by decide) ⟨_, rfl, q, _, _, .str "pieces", rfl, rfl, SqL.of hq, at_of (j := 0) rfl rfl, _, rfl, q, _, _, .int m, rfl, rfl, SqL.of hq, at_of (j := 1) rfl rfl, _, rfl, q, _, _, .int c, rfl, rfl, SqL.of hq, at_of (j := 2) rfl rfl, Wr.pieces m c, rfl, ok, k⟩
    | cut m c => exact ifd_neg (show ¬ ((3 : Nat) : Int) = 2 by decide) ⟨_, rfl, q, _, _, .str "cut", rfl, rfl, SqL.of hq, at_of (j := 0) rfl rfl, _, rfl, q, _, _, .int m, rfl, rfl, SqL.of hq, at_of (j := 1) rfl rfl, _, rfl, q, _, _, .int c, rfl, rfl, SqL.of hq, at_of (j := 2) rfl rfl, Wr.cut m c, rfl, ok, k⟩
    | coded m c => exact ifd_neg (show ¬ ((3 : Nat) : Int) = 2 by decide) ⟨_, rfl, q, _, _, .str "coded", rfl, rfl, SqL.of hq, at_of (j := 0) rfl rfl, _, rfl, q, _, _, .int m, rfl, rfl, SqL.of hq, at_of (j := 1) rfl rfl, _, rfl, q, _, _, .int c, rfl, rfl, SqL.of hq, at_of (j := 2) rfl rfl, Wr.coded m c, rfl, ok, k⟩
theorem ok_L_words (T : Tx w K mg) : Prom P w K mg base CX0 1 "_law_words" s_L_words ["_law_plan_here"] spWordsP := by
  refine Prom.of T.d_L_words sc_L_words (fun vs H Q E h => ?_) (fun _ _ _ _ _ _ us hl => match us, hl with | [_], _ => rfl) (fun f cdv A outer s H vs Q E hr h => ?_)
  · obtain ⟨q, a, rfl, _⟩ := h
    rfl
  · obtain ⟨q, a, rfl, hq, ok, k⟩ := h
    have hq : H q = _ := hq
    have nt := nums_two a
    refine ⟨_, (pss_one (ps_ret (pe_join pe_str (pe_lc (own := [("_law_thing", 1)]) (g := (gName 1)) (tt := tYes) (by rfl) sc_L_words.nd (pi_list (pv 0)) (blkOk_by (own := [("_law_thing", 1)]) (N := ["_law_plan_here", "_law_thing"]) (sc := defScope s_L_words) (by decide +kernel)) (fun _ _ _ _ _ => (pg_name (i := 1) sc_L_words.nd rfl (Or.inl rfl))) (fun _ _ _ _ _ => pts_nil) (fun _ _ _ _ _ => (pe_callTy cr_strV (by rfl) T.b_str (by decide +kernel) (pa_cons (pv 1) pa_nil))))))), ?_⟩
    refine ⟨⟨_, rfl⟩, _, rfl, q, rfl, ⟨_, SqL.of hq⟩, fun D hD => ?_⟩
    refine lc_list (K := K) (a := q) (xs := V.str a.kind :: a.nums.map V.int) (Pv := fun i H' => Same H H' ∧ H' D = some (.lst (((a.kind :: a.nums.map fun i => (toString i : Str)).take i).map V.str))) ⟨up hD, upd_same⟩ (fun i H' _ h => SqL.of (h.1 _ _ hq)) ?_ ?_
    · rintro i x H' hi ⟨hs, hd⟩
      obtain ⟨z, hz, hx⟩ : ∃ z, (a.kind :: a.nums.map fun i => (toString i : Str))[i]? = some z ∧ strV x = some z := by
        cases i with
        | zero =>
          have e : V.str a.kind = x := Option.some.inj hi
          subst e
          exact ⟨_, rfl, rfl⟩
        | succ i =>
          have hi : (a.nums.map V.int)[i]? = some x := hi
          obtain ⟨n, hn, rfl⟩ := int_at hi
          have sm := nums_small ok n (List.mem_of_getElem? hn)
          refine ⟨toString n, ?_, if_pos (log2_small sm.1 (by omega))⟩
          show (a.nums.map fun i => (toString i : Str))[i]? = _
          rw [List.getElem?_map, hn]
          rfl
      refine ⟨rfl, _, rfl, x, z, rfl, hx, _, hd, ?_, fun y o e => ?_, ?_⟩
      · rw [List.length_map, sizeLine_eq]
        have := List.length_take_le' i (a.kind :: a.nums.map fun i => (toString i : Str))
        rw [List.length_cons, List.length_map] at this
        omega
      · rw [upd_ne (ne_of_none e hD)]
        exact hs _ _ e
      · rw [upd_same, List.take_succ, hz, List.map_append]
        rfl
    · rintro H' ⟨hs, hd⟩
      have e : (V.str a.kind :: a.nums.map V.int).length = (a.kind :: a.nums.map fun i => (toString i : Str)).length := by simp
      rw [e, List.take_length] at hd
      have h2 := sum_short a.nums fun z hz => by have := nums_small ok z hz; omega
      have h3 := kind_len a
      have h5 : (" " : Str).length = 1 := by decide
      refine ⟨_, D, a.kind :: a.nums.map fun i => (toString i : Str), rfl, rfl, .inl (SqL.of hd), ?_, k _ hs⟩
      simp only [List.map_cons, List.sum_cons, List.length_cons, List.length_map]
      rw [h5]
      omega
theorem ok_L_rows (T : Tx w K mg) : Prom P w K mg base CX0 2 "_law_rows" s_L_rows ["_law_root_here", "_law_plans_here"] spRowsP := by
  refine Prom.of T.d_L_rows sc_L_rows (fun vs H Q E h => ?_) (fun _ _ _ _ _ _ us hl => match us, hl with | [_, _], _ => rfl) (fun f cdv A outer s H vs Q E hr h => ?_)
  · obtain ⟨l, b, xs, ws, rfl, _⟩ := h
    rfl
  · obtain ⟨l, b, xs, ws, rfl, hl, hw, so, k⟩ := h
    have hlx := hw.len
    have l6 := so.len
    have b0 := so.b0
    have b1 := so.b1
    have bl := small_text (b := b) (by omega) b1
    have e5 : ("base " : Str).length = 5 := by decide
    refine ⟨_, (pss_one (ps_ret (pe_join pe_str (pe_op op_cat (pe_lst (pa_cons (pe_op op_add_str pe_str (pe_callTy call_str_int (by rfl) T.b_str (by decide +kernel) (pa_cons (pv 0) pa_nil))) pa_nil)) (pe_lc (own := [("_law_plan_here", 2)]) (g := (gName 2)) (tt := tYes) (by rfl) sc_L_rows.nd (pi_list (pv 1)) (blkOk_by (own := [("_law_plan_here", 2)]) (N := ["_law_root_here", "_law_plans_here", "_law_plan_here"]) (sc := defScope s_L_rows) (by decide +kernel)) (fun _ _ _ _ _ => (pg_name (i := 2) sc_L_rows.nd rfl (Or.inl rfl))) (fun _ _ _ _ _ => pts_nil) (fun _ _ _ _ _ => (pe_callP (ok_L_words T) (hr.mono (by decide)) (by rfl) pass0 (pa_cons (pv 2) pa_nil)))))))), ?_⟩
    refine ⟨⟨_, rfl⟩, _, rfl, b, rfl, log2_small (by omega) (by omega), _, _, rfl, rfl, by rw [e5, sizeLine_eq]; omega, (by show 1 ≤ sizeLine; decide), fun l1 hl1 => ?_⟩
    have v1 := up (o := .lst [.str ("base " ++ (toString b : Str))]) hl1
    have hlv := v1 _ _ hl
    refine ⟨_, rfl, l, rfl, ⟨_, SqL.of hlv⟩, fun D hD => ?_⟩
    refine lc_list (K := K) (a := l) (xs := xs) (Pv := fun i H' => Same (upd H l1 (.lst [.str ("base " ++ (toString b : Str))])) H' ∧ H' D = some (.lst ((ws.take i).map fun z => V.str z.text))) ⟨up hD, upd_same⟩ (fun i H' _ h => SqL.of (h.1 _ _ hlv)) ?_ ?_
    · rintro i x H' hi ⟨hs, hd⟩
      obtain ⟨q, a, rfl, ha, hq⟩ := (hw.same (v1.trans hs)).get hi
      refine ⟨rfl, _, rfl, q, a, rfl, hq, so.ok a (List.mem_of_getElem? ha), fun H3 s3 => ⟨_, s3 _ _ hd, ?_, fun y o e => ?_, ?_⟩⟩
      · rw [List.length_map, List.length_take, sizeLine_eq]
        omega
      · rw [upd_ne (ne_of_none e hD)]
        exact s3 _ _ (hs _ _ e)
      · rw [upd_same, List.take_succ, ha, List.map_append]
        rfl
    · rintro H' ⟨hs, hd⟩
      rw [hlx, List.take_length] at hd
      refine ⟨l1, D, _, _, rfl, rfl, hs _ _ upd_same, hd, ?_, fun l3 hl3 => ?_⟩
      · rw [List.length_map, List.length_singleton, sizeLine_eq]
        omega
      have eb : (("base " : Str) ++ (toString b : Str)) = baseText b := by
        unfold baseText
        rw [PySem.Str.empty_append]
      have el2 : [V.str ("base " ++ (toString b : Str))] ++ ws.map (fun z => V.str z.text) = (baseText b :: ws.map Wr.text).map V.str := by
        rw [eb]
        simp
      refine ⟨_, l3, baseText b :: ws.map Wr.text, rfl, rfl, .inl (SqL.of (by rw [← el2]; exact upd_same)), ?_, k _ ((v1.trans hs).trans (up hl3))⟩
      have h1 := texts_sum so.ok
      have h2 : ("\n" : Str).length = 1 := by decide
      have h3 : (baseText b).length ≤ 9 := by
        rw [← eb, PySem.Str.length_append]
        omega
      simp only [List.map_cons, List.sum_cons, List.length_cons, List.length_map] at h1 ⊢
      rw [h2]
      omega
end
set_option pp.maxSteps 900
theorem new_beforeB {p q : Addr} {H H1 : Hp} (d : Drew p H H1) (h : H1 q = none) : H q = none := by
  cases e : H q with
  | none => rfl
  | some o =>
    have n : q ≠ p := fun z => by
      obtain ⟨_, _, _, e2, _⟩ := d.at_
      rw [z, e2] at h
      cases h
    rw [d.kp _ _ n e] at h
    cases h
theorem use_most {a : Wr} (h : a.ok) : a.use ≤ 7200 := by
  cases a <;> simp only [Wr.ok] at h <;> simp only [Wr.use] <;> try omega
  rename_i m c
  have := Int.mul_le_mul h.2.1 h.2.2.2 (by omega) (show (0 : Int) ≤ 60 by decide)
  omega
def spFinenessP : Sp := fun vs H Q _ => ∃ (l : Addr) (xs : List V) (ws : List Wr), vs = [.ref l] ∧ H l = some (.lst xs) ∧ PlansAt H xs ws ∧ (∀ a ∈ ws, a.ok) ∧ ws.length ≤ 6 ∧ ∀ H', Same H H' → Q (.int (fineL ws)) H'
def spFarB : Sp := fun vs H Q _ => ∃ (p : Addr) (b : Int), vs = [.ref p, .int b] ∧ PurseAt H p ∧ 2 ≤ b ∧ b ≤ 256 ∧ ∀ r H', 0 ≤ r → r ≤ 10 ^ 60 - 1 → Drew p H H' → Q (.int r) H'
section
variable {P : Program} {w : World} {K : PySem.W.Frag} {mg : Str → Option Value} {base : Heap}
theorem ok_L_plan (T : Tx w K mg) : Prom P w K mg base CX0 4 "_law_plan" s_L_plan ["_law_bowl_here", "_law_room"] spPlan := by
  refine Prom.of T.d_L_plan sc_L_plan (fun vs H Q E h => ?_) (fun _ _ _ _ _ _ us hl => match us, hl with | [_, _], _ => rfl) (fun f cdv A outer s H vs Q E hr h => ?_)
  · obtain ⟨p, r, rfl, _⟩ := h
    rfl
  · obtain ⟨p, rm, rfl, hp, r0', rm1, k⟩ := h
    refine ⟨_, (pss_cons (ps_set (i := 2) sc_L_plan.nd rfl (Or.inl rfl) (pe_callP (ok_L_one_of T) (hr.mono (by decide)) (by rfl) pass0 (pa_cons (pv 0) (pa_cons (pe_lst (pa_cons pe_str (pa_cons pe_str (pa_cons pe_str (pa_cons pe_str (pa_cons pe_str (pa_cons pe_str (pa_cons pe_str (pa_cons pe_str (pa_cons pe_str pa_nil)))))))))) pa_nil))))
      (pss_cons (ps_if (pt_cmpR op_in_seq (pv 2) (pe_lst (pa_cons pe_str (pa_cons pe_str (pa_cons pe_str pa_nil)))) (by rfl)) (pss_one (ps_ret (pe_lst (pa_cons (pv 2) (pa_cons (pe_callB (call_min2 rfl) (by rfl) T.b_min (by decide +kernel) (pa_cons pe_int (pa_cons (pe_callP (ok_L_small T) (hr.mono (by decide)) (by rfl) pass0 (pa_cons (pv 0) (pa_cons pe_int pa_nil))) pa_nil))) pa_nil))))) pss_nil)
      (pss_cons (ps_set (i := 3) sc_L_plan.nd rfl (Or.inl rfl) (pe_op op_add pe_int (pe_callP (ok_L_scoop T) (hr.mono (by decide)) (by rfl) pass0 (pa_cons (pv 0) (pa_cons (pe_callB (call_min2 rfl) (by rfl) T.b_min (by decide +kernel) (pa_cons pe_int (pa_cons (pv 1) pa_nil))) pa_nil)))))
      (pss_cons (ps_if (pt_cmpR op_eq (pv 2) pe_str (nomark _)) (pss_one (ps_ret (pe_lst (pa_cons (pv 2) (pa_cons (pv 3) pa_nil))))) pss_nil)
      (pss_cons (ps_if (pt_cmpR op_in_seq (pv 2) (pe_lst (pa_cons pe_str (pa_cons pe_str pa_nil))) (by rfl)) (pss_one (ps_ret (pe_lst (pa_cons (pv 2) (pa_cons (pv 3) (pa_cons (pe_callB (call_min2 rfl) (by rfl) T.b_min (by decide +kernel) (pa_cons pe_int (pa_cons (pe_callP (ok_L_small T) (hr.mono (by decide)) (by rfl) pass0 (pa_cons (pv 0) (pa_cons pe_int pa_nil))) pa_nil))) pa_nil)))))) pss_nil)
      (pss_cons (ps_while PassesOwn.never (pt_cmp (pc_gt (pe_op op_mul (pv 3) (pv 3)) (pv 1))) (pss_one (ps_set (i := 3) sc_L_plan.nd rfl (Or.inl rfl) (pe_op op_add pe_int (pe_op op_fdiv (pv 3) pe_int)))))
      (pss_one (ps_ret (pe_lst (pa_cons (pv 2) (pa_cons (pv 3) (pa_cons (pe_op op_add (pv 3) (pe_callP (ok_L_scoop T) (hr.mono (by decide)) (by rfl) pass0 (pa_cons (pv 0) (pa_cons (pe_op op_add (pe_op op_sub (pe_callB (call_min2 rfl) (by rfl) T.b_min (by decide +kernel) (pa_cons pe_int (pa_cons (pe_op op_fdiv (pv 1) (pv 3)) pa_nil))) (pv 3)) pe_int) pa_nil)))) pa_nil)))))))))))), ?_⟩
    refine ⟨_, rfl, (by show 9 ≤ sizeLine; decide), fun t ht => ?_⟩
    have d0 := (Drew.refl hp).new (o := .lst [V.str "told", V.str "whole", V.str "plus", V.str "told", V.str "whole", V.str "pieces", V.str "cut", V.str "coded", V.str "filled"]) ht
    refine ⟨p, t, _, rfl, d0.at_, (Drew.refl hp).ne ht, upd_same, (show 0 < 9 by decide), (show 9 ≤ 1000 by decide), fun i x H1 hx d1 => ?_⟩
    have d1 := d0.trans d1
    obtain ⟨s, rfl, hs⟩ : ∃ s : Str, x = .str s ∧ (s = "told" ∨ s = "whole" ∨ s = "plus" ∨ s = "pieces" ∨ s = "cut" ∨ s = "coded" ∨ s = "filled") := by
      match i, hx with
      | 0, hx => exact ⟨_, (Option.some.inj hx).symm, .inl rfl⟩
      | 1, hx => exact ⟨_, (Option.some.inj hx).symm, .inr (.inl rfl)⟩
      | 2, hx => exact ⟨_, (Option.some.inj hx).symm, .inr (.inr (.inl rfl))⟩
      | 3, hx => exact ⟨_, (Option.some.inj hx).symm, .inl rfl⟩
      | 4, hx => exact ⟨_, (Option.some.inj hx).symm, .inr (.inl rfl)⟩
      | 5, hx => exact ⟨_, (Option.some.inj hx).symm, .inr (.inr (.inr (.inl rfl)))⟩
      | 6, hx => exact ⟨_, (Option.some.inj hx).symm, .inr (.inr (.inr (.inr (.inl rfl))))⟩
      | 7, hx => exact ⟨_, (Option.some.inj hx).symm, .inr (.inr (.inr (.inr (.inr (.inl rfl)))))⟩
      | 8, hx => exact ⟨_, (Option.some.inj hx).symm, .inr (.inr (.inr (.inr (.inr (.inr rfl)))))⟩
      | n + 9, hx => exact absurd hx (by simp)
    rcases hs with rfl | rfl | rfl | rfl | rfl | rfl | rfl
    · refine ⟨_, rfl, (by show 3 ≤ sizeLine; decide), fun l hl => ⟨l, _, rfl, .inl (SqL.of upd_same), rfl, rfl, _, rfl, ifb_pos (by kernel_rfl) ?_⟩⟩
      have d2 := d1.new (o := .lst [V.str "told", V.str "whole", V.str "plus"]) hl
      refine ⟨_, rfl, _, rfl, p, _, rfl, d2.at_, by decide, by decide, fun r H2 r0 d3 => ⟨_, _, rfl, (by show 2 ≤ sizeLine; decide), fun q hq => ?_⟩⟩
      have d3 := d2.trans d3
      exact k q (Wr.told (if r < 1000 then r else 1000)) _ ⟨by split <;> omega, by split <;> omega⟩ r0' (new_beforeB d3 hq) (d3.new hq) upd_same
    · refine ⟨_, rfl, (by show 3 ≤ sizeLine; decide), fun l hl => ⟨l, _, rfl, .inl (SqL.of upd_same), rfl, rfl, _, rfl, ifb_pos (by kernel_rfl) ?_⟩⟩
      have d2 := d1.new (o := .lst [V.str "told", V.str "whole", V.str "plus"]) hl
      refine ⟨_, rfl, _, rfl, p, _, rfl, d2.at_, by decide, by decide, fun r H2 r0 d3 => ⟨_, _, rfl, (by show 2 ≤ sizeLine; decide), fun q hq => ?_⟩⟩
      have d3 := d2.trans d3
      exact k q (Wr.whole (if r < 1000 then r else 1000)) _ ⟨by split <;> omega, by split <;> omega⟩ r0' (new_beforeB d3 hq) (d3.new hq) upd_same
    · refine ⟨_, rfl, (by show 3 ≤ sizeLine; decide), fun l hl => ⟨l, _, rfl, .inl (SqL.of upd_same), rfl, rfl, _, rfl, ifb_pos (by kernel_rfl) ?_⟩⟩
      have d2 := d1.new (o := .lst [V.str "told", V.str "whole", V.str "plus"]) hl
      refine ⟨_, rfl, _, rfl, p, _, rfl, d2.at_, by decide, by decide, fun r H2 r0 d3 => ⟨_, _, rfl, (by show 2 ≤ sizeLine; decide), fun q hq => ?_⟩⟩
      have d3 := d2.trans d3
      exact k q (Wr.plus (if r < 1000 then r else 1000)) _ ⟨by split <;> omega, by split <;> omega⟩ r0' (new_beforeB d3 hq) (d3.new hq) upd_same
    · refine ⟨_, rfl, (by show 3 ≤ sizeLine; decide), fun l hl => ⟨l, _, rfl, .inl (SqL.of upd_same), rfl, rfl, _, rfl, ifb_neg (by kernel_rfl) ?_⟩⟩
      have d2 := d1.new (o := .lst [V.str "told", V.str "whole", V.str "plus"]) hl
      generalize upd H1 l (.lst [V.str "told", V.str "whole", V.str "plus"]) = H2 at d2 ⊢
      refine ⟨_, rfl, _, rfl, _, _, rfl, p, _, rfl, d2.at_, by split <;> omega, by split <;> omega, fun r H3 r0 r1 d3 => ⟨_, _, rfl, rfl, ?_⟩⟩
      have d3 := d2.trans d3
      have q0 : 1 ≤ 1 + r := by omega
      have q1 : 1 + r ≤ 60 ∧ 1 + r ≤ rm := by split at r1 <;> omega
      show gName 3 (V.int (1 + r)) _ _ _
      generalize 1 + r = pt at q0 q1 ⊢
      refine ⟨_, rfl, rfl, _, rfl, ifs_neg (show ("pieces" : Str) ≠ "filled" by decide) ?_⟩
      refine ⟨_, rfl, (by show 2 ≤ sizeLine; decide), fun l2 hl2 => ⟨l2, _, rfl, .inl (SqL.of upd_same), rfl, rfl, _, rfl, ifb_pos (by kernel_rfl) ?_⟩⟩
      have d4 := d3.new (o := .lst [V.str "cut", V.str "pieces"]) hl2
      refine ⟨_, rfl, _, rfl, _, rfl, p, _, rfl, d4.at_, by decide, by decide, fun z H4 z0 d5 => ⟨_, _, rfl, (by show 3 ≤ sizeLine; decide), fun q hq => ?_⟩⟩
      have d5 := d4.trans d5
      exact k q (Wr.pieces pt (if z < 60 then z else 60)) _ ⟨q0, q1.1, by split <;> omega, by split <;> omega⟩ q1.2 (new_beforeB d5 hq) (d5.new hq) upd_same
    · refine ⟨_, rfl, (by show 3 ≤ sizeLine; decide), fun l hl => ⟨l, _, rfl, .inl (SqL.of upd_same), rfl, rfl, _, rfl, ifb_neg (by kernel_rfl) ?_⟩⟩
      have d2 := d1.new (o := .lst [V.str "told", V.str "whole", V.str "plus"]) hl
      generalize upd H1 l (.lst [V.str "told", V.str "whole", V.str "plus"]) = H2 at d2 ⊢
      refine ⟨_, rfl, _, rfl, _, _, rfl, p, _, rfl, d2.at_, by split <;> omega, by split <;> omega, fun r H3 r0 r1 d3 => ⟨_, _, rfl, rfl, ?_⟩⟩
      have d3 := d2.trans d3
      have q0 : 1 ≤ 1 + r := by omega
      have q1 : 1 + r ≤ 60 ∧ 1 + r ≤ rm := by split at r1 <;> omega
      show gName 3 (V.int (1 + r)) _ _ _
      generalize 1 + r = pt at q0 q1 ⊢
      refine ⟨_, rfl, rfl, _, rfl, ifs_neg (show ("cut" : Str) ≠ "filled" by decide) ?_⟩
      refine ⟨_, rfl, (by show 2 ≤ sizeLine; decide), fun l2 hl2 => ⟨l2, _, rfl, .inl (SqL.of upd_same), rfl, rfl, _, rfl, ifb_pos (by kernel_rfl) ?_⟩⟩
      have d4 := d3.new (o := .lst [V.str "cut", V.str "pieces"]) hl2
      refine ⟨_, rfl, _, rfl, _, rfl, p, _, rfl, d4.at_, by decide, by decide, fun z H4 z0 d5 => ⟨_, _, rfl, (by show 3 ≤ sizeLine; decide), fun q hq => ?_⟩⟩
      have d5 := d4.trans d5
      exact k q (Wr.cut pt (if z < 60 then z else 60)) _ ⟨q0, q1.1, by split <;> omega, by split <;> omega⟩ q1.2 (new_beforeB d5 hq) (d5.new hq) upd_same
    · refine ⟨_, rfl, (by show 3 ≤ sizeLine; decide), fun l hl => ⟨l, _, rfl, .inl (SqL.of upd_same), rfl, rfl, _, rfl, ifb_neg (by kernel_rfl) ?_⟩⟩
      have d2 := d1.new (o := .lst [V.str "told", V.str "whole", V.str "plus"]) hl
      generalize upd H1 l (.lst [V.str "told", V.str "whole", V.str "plus"]) = H2 at d2 ⊢
      refine ⟨_, rfl, _, rfl, _, _, rfl, p, _, rfl, d2.at_, by split <;> omega, by split <;> omega, fun r H3 r0 r1 d3 => ⟨_, _, rfl, rfl, ?_⟩⟩
      have d3 := d2.trans d3
      have q0 : 1 ≤ 1 + r := by omega
      have q1 : 1 + r ≤ 60 ∧ 1 + r ≤ rm := by split at r1 <;> omega
      show gName 3 (V.int (1 + r)) _ _ _
      generalize 1 + r = pt at q0 q1 ⊢
      refine ⟨_, rfl, rfl, _, rfl, ifs_neg (show ("coded" : Str) ≠ "filled" by decide) ?_⟩
      refine ⟨_, rfl, (by show 2 ≤ sizeLine; decide), fun l2 hl2 => ⟨l2, _, rfl, .inl (SqL.of upd_same), rfl, rfl, _, rfl, ifb_neg (by kernel_rfl) ?_⟩⟩
      have d4 := d3.new (o := .lst [V.str "cut", V.str "pieces"]) hl2
      generalize upd H3 l2 (.lst [V.str "cut", V.str "pieces"]) = H4 at d4 ⊢
      refine ⟨fun m σ H5 => H5 = H4 ∧ ∃ g : Int, 1 ≤ g ∧ g ≤ 60 ∧ m = g.toNat ∧ σ = [some (.ref p), some (.int rm), some (.str "coded"), some (.int g)], ⟨_, rfl, pt, q0, q1.1, rfl, rfl⟩, ?_⟩
      rintro m σ H5 ⟨rfl, g, g0, g1, rfl, rfl⟩
      refine ⟨_, rfl, _, rfl, _, _, rfl, rfl, .inl ⟨by omega, by omega⟩, _, rfl, _, _, rfl, rfl, _, rfl, ifd (fun c => ?_) (fun c => ?_)⟩
      · have c : g * g > rm := c
        have g2 : 2 ≤ g := by
          by_cases z : g = 1
          · subst z
            omega
          · omega
        refine ⟨_, fun σ' H' h => h, ?_⟩
        refine ⟨_, rfl, _, _, rfl, rfl, ⟨by decide, by decide⟩, _, _, rfl, rfl, ?_⟩
        exact ⟨_, by show (1 + g / 3).toNat < g.toNat; omega, rfl, 1 + g / 3, by omega, by omega, rfl, rfl⟩
      · have c : ¬ g * g > rm := c
        have gd : g ≤ rm / g := (Int.le_ediv_iff_mul_le (by omega)).mpr (by omega)
        have gg : g * (rm / g) ≤ rm := by
          have := Int.ediv_mul_le rm (show g ≠ 0 by omega)
          rw [Int.mul_comm]
          exact this
        refine ⟨_, rfl, _, rfl, _, rfl, _, rfl, _, rfl, _, rfl, _, _, rfl, rfl, ⟨by omega, by omega⟩, _, _, rfl, _, rfl, _, _, rfl, rfl, _, _, rfl, rfl, p, _, rfl, d4.at_, by split <;> omega, by split <;> omega, fun y H6 y0 y1 d6 => ⟨_, _, rfl, rfl, (by show 3 ≤ sizeLine; decide), fun q hq => ?_⟩⟩
        have d6 := d4.trans d6
        have y2 : g + y ≤ 120 ∧ g + y ≤ rm / g := by split at y1 <;> omega
        have us : g * (g + y) ≤ rm := Int.le_trans (Int.mul_le_mul_of_nonneg_left y2.2 (by omega)) gg
        exact k q (Wr.coded g (g + y)) _ ⟨g0, g1, by omega, y2.1⟩ us (new_beforeB d6 hq) (d6.new hq) upd_same
    · refine ⟨_, rfl, (by show 3 ≤ sizeLine; decide), fun l hl => ⟨l, _, rfl, .inl (SqL.of upd_same), rfl, rfl, _, rfl, ifb_neg (by kernel_rfl) ?_⟩⟩
      have d2 := d1.new (o := .lst [V.str "told", V.str "whole", V.str "plus"]) hl
      generalize upd H1 l (.lst [V.str "told", V.str "whole", V.str "plus"]) = H2 at d2 ⊢
      refine ⟨_, rfl, _, rfl, _, _, rfl, p, _, rfl, d2.at_, by split <;> omega, by split <;> omega, fun r H3 r0 r1 d3 => ⟨_, _, rfl, rfl, ?_⟩⟩
      have d3 := d2.trans d3
      have q0 : 1 ≤ 1 + r := by omega
      have q1 : 1 + r ≤ 60 ∧ 1 + r ≤ rm := by split at r1 <;> omega
      show gName 3 (V.int (1 + r)) _ _ _
      generalize 1 + r = pt at q0 q1 ⊢
      refine ⟨_, rfl, rfl, _, rfl, ifd_pos rfl ?_⟩
      refine ⟨_, rfl, _, rfl, (by show 2 ≤ sizeLine; decide), fun q hq => ?_⟩
      exact k q (Wr.filled pt) _ ⟨q0, q1.1⟩ q1.2 (new_beforeB d3 hq) (d3.new hq) upd_same
theorem ok_L_far (T : Tx w K mg) : Prom P w K mg base CX0 3 "_law_far" s_L_far ["_law_bowl_here", "_law_root_here"] spFarB := by
  refine Prom.of T.d_L_far sc_L_far (fun vs H Q E h => ?_) (fun _ _ _ _ _ _ us hl => match us, hl with | [_, _], _ => rfl) (fun f cdv A outer s H vs Q E hr h => ?_)
  · obtain ⟨p, b, rfl, _⟩ := h
    rfl
  · obtain ⟨p, b, rfl, hp, b0, b1, k⟩ := h
    refine ⟨_, (pss_cons (ps_set (i := 2) sc_L_far.nd rfl (Or.inl rfl) pe_int)
      (pss_cons (ps_for PassesOwn.never (by rfl) (pi_range1 (by rfl) T.b_range (pa_cons (pe_callP (ok_L_scoop T) (hr.mono (by decide)) (by rfl) pass0 (pa_cons (pv 0) (pa_cons pe_int pa_nil))) pa_nil)) (pg_name (i := 3) sc_L_far.nd rfl (Or.inl rfl)) (pss_one (ps_if (pt_cmp (pc_lt (pe_op op_mul (pv 2) (pv 1)) (pe_op op_pow pe_int pe_int))) (pss_one (ps_set (i := 2) sc_L_far.nd rfl (Or.inl rfl) (pe_op op_mul (pv 2) (pv 1)))) pss_nil)))
      (pss_cons (ps_set (i := 4) sc_L_far.nd rfl (Or.inl rfl) (pe_callB (call_max2 rfl) (by rfl) T.b_max (by decide +kernel) (pa_cons pe_int (pa_cons (pe_callTy call_int1 (by rfl) T.b_int (by decide +kernel) (pa_cons (pe_op op_sub (pe_op op_add (pv 2) (pe_callP (ok_L_scoop T) (hr.mono (by decide)) (by rfl) pass0 (pa_cons (pv 0) (pa_cons pe_int pa_nil)))) pe_int) pa_nil)) pa_nil))))
      (pss_cons (ps_set (i := 5) sc_L_far.nd rfl (Or.inl rfl) (pe_op op_mul (pe_callP (ok_L_scoop T) (hr.mono (by decide)) (by rfl) pass0 (pa_cons (pv 0) (pa_cons (pe_op op_pow pe_int pe_int) pa_nil))) (pe_callP (ok_L_one_of T) (hr.mono (by decide)) (by rfl) pass0 (pa_cons (pv 0) (pa_cons (pe_lst (pa_cons pe_int (pa_cons (pe_op op_pow pe_int pe_int) (pa_cons (pe_op op_pow pe_int pe_int) (pa_cons (pe_op op_pow pe_int pe_int) pa_nil))))) pa_nil)))))
      (pss_cons (ps_set (i := 5) sc_L_far.nd rfl (Or.inl rfl) (pe_callTy call_int1 (by rfl) T.b_int (by decide +kernel) (pa_cons (pe_op op_add (pv 5) (pe_callP (ok_L_scoop T) (hr.mono (by decide)) (by rfl) pass0 (pa_cons (pv 0) (pa_cons pe_int pa_nil)))) pa_nil)))
      (pss_one (ps_ret (pe_callP (ok_L_one_of T) (hr.mono (by decide)) (by rfl) pass0 (pa_cons (pv 0) (pa_cons (pe_lst (pa_cons (pe_callP (ok_L_scoop T) (hr.mono (by decide)) (by rfl) pass0 (pa_cons (pv 0) (pa_cons pe_int pa_nil))) (pa_cons (pv 4) (pa_cons (pv 4) (pa_cons (pv 5) (pa_cons (pe_op op_sub (pe_op op_sub (pe_op op_pow pe_int pe_int) pe_int) (pe_callP (ok_L_scoop T) (hr.mono (by decide)) (by rfl) pass0 (pa_cons (pv 0) (pa_cons pe_int pa_nil)))) pa_nil)))))) pa_nil)))))))))), ?_⟩
    refine ⟨_, rfl, p, _, rfl, hp, by decide, by decide, fun m H1 m0 m1 d1 => ?_⟩
    refine ⟨_, rfl, by omega, by omega, for_range (lo := 0) (n := m.toNat) (fun i σ H' => H' = H1 ∧ ∃ (st : Int) (v : Option V), 1 ≤ st ∧ st < 10 ^ 59 ∧ σ = [some (.ref p), some (.int b), some (.int st), v, none, none]) ⟨rfl, 1, none, by decide, by decide, rfl⟩ ?_ ?_⟩
    · rintro i σ H2 hi ⟨rfl, st, v, s0, s1, rfl⟩
      refine ⟨_, rfl, _, rfl, _, _, rfl, rfl, .inr ⟨by omega, by omega⟩, _, _, rfl, rfl, ⟨by decide, by decide, by decide⟩, _, _, rfl, rfl, _, rfl, ifd (fun c => ?_) (fun c => ⟨rfl, st, _, s0, s1, rfl⟩)⟩
      have c : st * b < 10 ^ 59 := c
      have sb : 1 ≤ st * b := by
        have := Int.mul_le_mul s0 (show 1 ≤ b by omega) (by decide) (by omega)
        omega
      exact ⟨_, rfl, _, rfl, _, _, rfl, rfl, .inr ⟨by omega, by omega⟩, rfl, st * b, _, sb, c, rfl⟩
    · rintro σ H2 ⟨rfl, st, v, s0, s1, rfl⟩
      refine ⟨_, rfl, _, rfl, p, _, rfl, d1.at_, by decide, by decide, fun r H3 r0 r1 d3 => ?_⟩
      have d3 := d1.trans d3
      refine ⟨_, _, rfl, rfl, _, _, rfl, rfl, .inl ⟨_, rfl, _, _, rfl, ?_⟩⟩
      have e0 : 0 ≤ (if st + r - 40 > 0 then st + r - 40 else 0) := by split <;> omega
      have e1 : (if st + r - 40 > 0 then st + r - 40 else 0) ≤ 10 ^ 60 - 1 := by split <;> omega
      show gName 4 (V.int (if st + r - 40 > 0 then st + r - 40 else 0)) _ _ _
      generalize (if st + r - 40 > 0 then st + r - 40 else 0) = near at e0 e1 ⊢
      refine ⟨_, rfl, _, _, rfl, rfl, ⟨by decide, by decide, by decide⟩, p, _, rfl, d3.at_, by decide, by decide, fun g H4 g0 g1 d4 => ?_⟩
      have d4 := d3.trans d4
      have g1 : g < 1000000000 := g1
      refine ⟨_, rfl, _, _, rfl, rfl, ⟨by decide, by decide, by decide⟩, _, _, rfl, rfl, ⟨by decide, by decide, by decide⟩, _, _, rfl, rfl, ⟨by decide, by decide, by decide⟩, (by show 4 ≤ sizeLine; decide), fun t ht => ?_⟩
      refine ⟨p, t, _, rfl, (d4.new ht).at_, d4.ne ht, upd_same, (show 0 < 4 by decide), (show 4 ≤ 1000 by decide), fun i x H5 hx d5 => ?_⟩
      have d5 := drew_one d4 ht d5
      obtain ⟨y, rfl, y0, y1⟩ : ∃ y : Int, x = .int y ∧ 0 ≤ y ∧ y ≤ 10 ^ 50 := by
        match i, hx with
        | 0, hx => exact ⟨_, (Option.some.inj hx).symm, by decide, by decide⟩
        | 1, hx => exact ⟨_, (Option.some.inj hx).symm, by decide, by decide⟩
        | 2, hx => exact ⟨_, (Option.some.inj hx).symm, by decide, by decide⟩
        | 3, hx => exact ⟨_, (Option.some.inj hx).symm, by decide, by decide⟩
        | n + 4, hx => exact absurd hx (by simp)
      refine ⟨_, _, rfl, rfl, .inl ⟨by omega, by omega⟩, ?_⟩
      have a0 : 0 ≤ g * y := Int.mul_nonneg g0 y0
      have a1 : g * y ≤ 1000000000 * 10 ^ 50 := Int.mul_le_mul (by omega) y1 y0 (by decide)
      show gName 5 (V.int (g * y)) _ _ _
      generalize g * y = an at a0 a1 ⊢
      refine ⟨_, rfl, _, rfl, p, _, rfl, d5.at_, by decide, by decide, fun z H6 z0 z1 d6 => ⟨_, _, rfl, rfl, .inl ⟨_, rfl, ?_⟩⟩⟩
      have d6 := d5.trans d6
      refine ⟨_, rfl, _, rfl, p, _, rfl, d6.at_, by decide, by decide, fun u1 H7 u10 u11 d7 => ?_⟩
      have d7 := d6.trans d7
      refine ⟨_, rfl, _, rfl, _, rfl, _, _, rfl, rfl, ⟨by decide, by decide, by decide⟩, _, _, rfl, rfl, _, rfl, p, _, rfl, d7.at_, by decide, by decide, fun u2 H8 u20 u21 d8 => ⟨_, _, rfl, rfl, (by show 5 ≤ sizeLine; decide), fun t2 ht2 => ?_⟩⟩
      have d8 := d7.trans d8
      refine ⟨p, t2, _, rfl, (d8.new ht2).at_, d8.ne ht2, upd_same, (show 0 < 5 by decide), (show 5 ≤ 1000 by decide), fun i x H9 hx d9 => ?_⟩
      have d := drew_one d8 ht2 d9
      have fin : ∀ y : Int, 0 ≤ y → y ≤ 10 ^ 60 - 1 → x = .int y → Q x H9 := fun y h1 h2 e => by
        rw [e]
        exact k y H9 h1 h2 d
      match i, hx with
      | 0, hx => exact fin u1 u10 (by omega) (Option.some.inj hx).symm
      | 1, hx => exact fin near e0 e1 (Option.some.inj hx).symm
      | 2, hx => exact fin near e0 e1 (Option.some.inj hx).symm
      | 3, hx => exact fin (an + z) (by omega) (by omega) (Option.some.inj hx).symm
      | 4, hx => exact fin (10 ^ 60 - 1 - u2) (by omega) (by omega) (Option.some.inj hx).symm
      | n + 5, hx => exact absurd hx (by simp)
theorem ok_L_fine_all (T : Tx w K mg) : Prom P w K mg base CX0 2 "_law_fine_all" s_L_fine_all ["_law_plans_here"] spFinenessP := by
  refine Prom.of T.d_L_fine_all sc_L_fine_all (fun vs H Q E h => ?_) (fun _ _ _ _ _ _ us hl => match us, hl with | [_], _ => rfl) (fun f cdv A outer s H vs Q E hr h => ?_)
  · obtain ⟨l, xs, ws, rfl, _⟩ := h
    rfl
  · obtain ⟨l, xs, ws, rfl, hl, hw, ok, len, k⟩ := h
    refine ⟨_, (pss_cons (ps_set (i := 1) sc_L_fine_all.nd rfl (Or.inl rfl) pe_int)
      (pss_cons (ps_for PassesOwn.never (by rfl) (pi_list (pv 0)) (pg_name (i := 2) sc_L_fine_all.nd rfl (Or.inl rfl)) (pss_one (ps_set (i := 1) sc_L_fine_all.nd rfl (Or.inl rfl) (pe_op op_mul (pv 1) (pe_callP (ok_L_fine T) (hr.mono (by decide)) (by rfl) pass0 (pa_cons (pv 2) pa_nil))))))
      (pss_one (ps_ret (pv 1))))), ?_⟩
    refine ⟨_, rfl, l, rfl, ⟨_, SqL.of hl⟩, for_list (K := K) (a := l) (xs := xs) (fun i σ H' => Same H H' ∧ ∃ v : Option V, σ = [some (.ref l), some (.int (fineL (ws.take i))), v]) ⟨Same.refl _, none, rfl⟩ (fun i σ H' _ h => SqL.of (h.1 _ _ hl)) ?_ ?_⟩
    · rintro i x σ H1 hi ⟨hs, v, rfl⟩
      obtain ⟨q, a, rfl, ha, hq⟩ := (hw.same hs).get hi
      have oka := ok a (List.mem_of_getElem? ha)
      have et : fineL (ws.take (i + 1)) = fineL (ws.take i) * a.use := by
        unfold fineL
        rw [List.take_succ, ha, List.foldl_append]
        show stepF _ a = _
        rw [step_use]
      rw [et]
      have up_ : a.use ≤ 7200 := use_most oka
      have u0 := use_pos oka
      refine ⟨_, rfl, _, rfl, q, a, rfl, hq, oka, fun H2 s2 => ⟨_, _, rfl, rfl, .inr ⟨by omega, by omega⟩, hs.trans s2, _, rfl⟩⟩
    · rintro σ H1 ⟨hs, v, rfl⟩
      rw [hw.len, List.take_length]
      exact ⟨_, rfl, k _ hs⟩
end
set_option pp.maxSteps 900
theorem beg_eq {n m : Int} (hm : 1 ≤ m) : n / m + (if n % m > 0 then 1 else 0) = beg n m := by
  unfold beg
  have e := Int.emod_add_mul_ediv n m
  have r0 := Int.emod_nonneg n (show m ≠ 0 by omega)
  have r1 := Int.emod_lt_of_pos n (show 0 < m by omega)
  have key : n + m - 1 = (n % m + m - 1) + m * (n / m) := by omega
  rw [key, Int.add_mul_ediv_left _ _ (show m ≠ 0 by omega)]
  by_cases z : n % m > 0
  · rw [if_pos z]
    have : (n % m + m - 1) / m = 1 := by
      rw [Int.ediv_eq_iff_of_pos (by omega)]
      omega
    omega
  · rw [if_neg z]
    have : (n % m + m - 1) / m = 0 := Int.ediv_eq_zero_of_lt (by omega) (by omega)
    omega
theorem two_pow_le {b : Int} (hb : 2 ≤ b) : ∀ j : Nat, (2 : Int) ^ j ≤ b ^ j
  | 0 => by rw [Int.pow_zero, Int.pow_zero]; decide
  | j + 1 => by
    rw [Int.pow_succ, Int.pow_succ]
    exact Int.mul_le_mul (two_pow_le hb j) hb (by decide) (by have := pow_pos (show 1 ≤ b by omega) j; omega)
theorem fig_bits {b n : Int} {k : Nat} (hb : 2 ≤ b) (hn : n < 2 ^ k) : figF b n ≤ (k : Int) + 1 := by
  obtain ⟨j, e, h1, h2⟩ := figF_is (b := b) (n := n) hb
  rw [e]
  rcases h2 with rfl | h2
  · omega
  · have p := two_pow_le hb j
    by_cases z : j < k
    · omega
    · have := pow_mono (b := 2) (by decide) (show k ≤ j by omega)
      omega
def spPartsB : Sp := fun vs H Q _ => ∃ (n m : Int), vs = [.int n, .int m] ∧ 1 ≤ m ∧ m ≤ 60 ∧ Q (.int (beg n m)) H
def spGrownP : Sp := fun vs H Q _ => ∃ (q : Addr) (a : Wr) (n b : Int), vs = [.ref q, .int n, .int b] ∧ PlanAt H q a ∧ a.ok ∧ 2 ≤ b ∧ b ≤ 256 ∧ 0 ≤ n ∧ n < 2 ^ 2000 ∧ ∀ H', Same H H' → Q (.int (a.gr b n)) H'
def spSizeP : Sp := fun vs H Q _ => ∃ (l : Addr) (b n : Int) (xs : List V) (ws : List Wr), vs = [.int b, .ref l, .int n] ∧ H l = some (.lst xs) ∧ PlansAt H xs ws ∧ StkOk b ws ∧ 0 ≤ n ∧ n ≤ 10 ^ 60 - 1 ∧ ∀ H', Same H H' → Q (.int (grS b ws n)) H'
section
variable {P : Program} {w : World} {K : PySem.W.Frag} {mg : Str → Option Value} {base : Heap}
theorem ok_L_parts (T : Tx w K mg) : Prom P w K mg base CX0 1 "_law_parts" s_L_parts ["_law_n", "_law_whole_part"] spPartsB := by
  refine Prom.of T.d_L_parts sc_L_parts (fun vs H Q E h => ?_) (fun _ _ _ _ _ _ us hl => match us, hl with | [_, _], _ => rfl) (fun f cdv A outer s H vs Q E hr h => ?_)
  · obtain ⟨n, m, rfl, _⟩ := h
    rfl
  · obtain ⟨n, m, rfl, m0, m1, k⟩ := h
    refine ⟨_, (pss_one (ps_ret (pe_op op_add (pe_op op_fdiv (pv 0) (pv 1)) (pe_callTy call_int1 (by rfl) T.b_int (by decide +kernel) (pa_cons (pe_cmp (pc_gt (pe_op op_mod (pe_callTy call_int1 (by rfl) T.b_int (by decide +kernel) (pa_cons (pv 0) pa_nil)) (pv 1)) pe_int)) pa_nil))))), ?_⟩
    refine ⟨_, rfl, _, rfl, _, _, rfl, rfl, ⟨by omega, by omega⟩, _, rfl, .inl ⟨_, rfl, _, rfl, _, _, rfl, rfl, (by show 0 < m; omega), _, _, rfl, rfl, .inr ⟨_, rfl, _, _, rfl, rfl, ?_⟩⟩⟩
    have e := beg_eq (n := n) m0
    have e2 : n / m + (if (decide (n % m > 0)) = true then 1 else 0) = beg n m := by
      rw [← e]
      by_cases z : n % m > 0
      · rw [if_pos z, if_pos (decide_eq_true z)]
      · rw [if_neg z, if_neg (by simpa using z)]
    show Q (.int (n / m + (if (decide (n % m > 0)) = true then 1 else 0))) H
    rw [e2]
    exact k
theorem ok_L_grown (T : Tx w K mg) : Prom P w K mg base CX0 2 "_law_grown" s_L_grown ["_law_plan_here", "_law_n", "_law_root_here"] spGrownP := by
  refine Prom.of T.d_L_grown sc_L_grown (fun vs H Q E h => ?_) (fun _ _ _ _ _ _ us hl => match us, hl with | [_, _, _], _ => rfl) (fun f cdv A outer s H vs Q E hr h => ?_)
  · obtain ⟨q, a, n, b, rfl, _⟩ := h
    rfl
  · obtain ⟨q, a, n, b, rfl, hq, ok, b0, b1, n0, n1, k⟩ := h
    have hq : H q = _ := hq
    refine ⟨_, (pss_cons (ps_asg (pe_tup (pa_cons (pe_ix ix_list (pv 0) pe_int (fun _ _ => rfl)) (pa_cons (pe_ix ix_list (pv 0) pe_int (fun _ _ => rfl)) (pa_cons (pe_ix ix_list (pv 0) (pe_un un_neg pe_int) (fun _ _ => rfl)) pa_nil)))) (pg_tup rfl (pgs_cons (pg_name (i := 3) sc_L_grown.nd rfl (Or.inl rfl)) (pgs_cons (pg_name (i := 4) sc_L_grown.nd rfl (Or.inr rfl)) (pgs_cons (pg_name (i := 5) sc_L_grown.nd rfl (Or.inl rfl)) pgs_nil)))))
      (pss_cons (ps_if (pt_cmpR op_eq (pv 3) pe_str (nomark _)) (pss_one (ps_ret (pe_op op_add (pv 1) (pv 4)))) pss_nil)
      (pss_cons (ps_if (pt_cmpR op_eq (pv 3) pe_str (nomark _)) (pss_one (ps_ret (pe_op op_add (pe_op op_add (pv 1) (pv 4)) (pe_callP (ok_L_figures T) (hr.mono (by decide)) (by rfl) pass0 (pa_cons (pv 1) (pa_cons (pv 2) pa_nil)))))) pss_nil)
      (pss_cons (ps_if (pt_cmpR op_eq (pv 3) pe_str (nomark _)) (pss_cons (ps_set (i := 6) sc_L_grown.nd rfl (Or.inr rfl) (pe_callP (ok_L_figures T) (hr.mono (by decide)) (by rfl) pass0 (pa_cons (pe_op op_add (pv 1) (pv 4)) (pa_cons (pv 2) pa_nil))))
      (pss_cons (ps_setLc (i := 7) (own := [("_law_many", 11)]) (g := (gName 11)) (tt := tYes) (by rfl) sc_L_grown.nd rfl rfl (sw_true rfl rfl rfl (by decide +kernel)) (pi_range2 (by rfl) T.b_range (pa_cons (pv 6) (pa_cons (pe_op op_add (pv 6) pe_int) pa_nil))) (blkOk_by (own := [("_law_many", 11)]) (N := ["_law_plan_here", "_law_n", "_law_root_here", "_law_sort", "_law_first", "_law_last", "_law_least_one", "_law_own", "_law_rest", "_law_full", "_law_left", "_law_many", "_law_k", "_law_s"]) (sc := defScope s_L_grown) (by decide +kernel)) (fun _ _ _ _ _ => (pg_name (i := 11) sc_L_grown.nd rfl (Or.inl rfl))) (fun _ _ _ _ _ => pts_nil) (fun _ _ _ _ _ => (pe_op op_add (pe_op op_add (pv 1) (pv 4)) (pv 11))))
      (pss_one (ps_ret (pe_ix ix_list (pe_lc (own := [("_law_k", 12), ("_law_s", 13)]) (g := (gTup K 2 (gCons (gName 12) (gCons (gName 13) gNil)))) (by rfl) sc_L_grown.nd (pi_enum (by rfl) T.b_enumerate (pa_cons (pv 7) pa_nil)) (blkOk_by (own := [("_law_k", 12), ("_law_s", 13)]) (N := ["_law_plan_here", "_law_n", "_law_root_here", "_law_sort", "_law_first", "_law_last", "_law_least_one", "_law_own", "_law_rest", "_law_full", "_law_left", "_law_many", "_law_k", "_law_s"]) (sc := defScope s_L_grown) (by decide +kernel)) (fun _ _ _ _ _ => (pg_tup rfl (pgs_cons (pg_name (i := 12) sc_L_grown.nd rfl (Or.inl rfl)) (pgs_cons (pg_name (i := 13) sc_L_grown.nd rfl (Or.inl rfl)) pgs_nil)))) (fun _ _ _ _ _ => pts_one (pt_cmp (pc_eqI (pe_callP (ok_L_figures T) (hr.mono (by decide)) (by rfl) pass0 (pa_cons (pv 13) (pa_cons (pv 2) pa_nil))) (pe_op op_add (pv 12) (pv 6))))) (fun _ _ _ _ _ => (pv 13))) pe_int (fun _ _ => rfl)))))) pss_nil)
      (pss_cons (ps_if (pt_cmpR op_eq (pv 3) pe_str (nomark _)) (pss_one (ps_ret (pe_op op_mul (pv 5) (pe_callP (ok_L_parts T) (hr.mono (by decide)) (by rfl) pass0 (pa_cons (pv 1) (pa_cons (pv 4) pa_nil)))))) pss_nil)
      (pss_cons (ps_if (pt_cmpR op_eq (pv 3) pe_str (nomark _)) (pss_one (ps_ret (pe_op op_mul (pv 4) (pe_callP (ok_L_parts T) (hr.mono (by decide)) (by rfl) pass0 (pa_cons (pv 1) (pa_cons (pv 4) pa_nil)))))) pss_nil)
      (pss_cons (ps_if (pt_cmpR op_eq (pv 3) pe_str (nomark _)) (pss_one (ps_ret (pe_op op_add (pv 1) (pe_op op_mul (pv 5) (pe_callP (ok_L_parts T) (hr.mono (by decide)) (by rfl) pass0 (pa_cons (pv 1) (pa_cons (pv 4) pa_nil))))))) pss_nil)
      (pss_cons (ps_par (i := 8) (j := 9) (by rfl) sc_L_grown.nd rfl rfl (by decide) rfl rfl (pa_cons (pe_op op_mod (pe_callTy call_int1 (by rfl) T.b_int (by decide +kernel) (pa_cons (pv 1) pa_nil)) (pv 4)) (pa_cons (pe_op op_add (pe_op op_add (pv 4) (pv 5)) (pe_callP (ok_L_figures T) (hr.mono (by decide)) (by rfl) pass0 (pa_cons (pv 4) (pa_cons (pv 2) pa_nil)))) pa_nil)) (by rfl))
      (pss_cons (ps_set (i := 10) sc_L_grown.nd rfl (Or.inl rfl) (pe_ifExp (pt_cmp (pc_gt (pv 8) pe_int)) (pe_op op_add (pe_op op_add (pv 8) (pv 5)) (pe_callP (ok_L_figures T) (hr.mono (by decide)) (by rfl) pass0 (pa_cons (pv 8) (pa_cons (pv 2) pa_nil)))) pe_int))
      (pss_one (ps_ret (pe_op op_add (pe_op op_add (pe_op op_add (pe_op op_mul (pe_op op_fdiv (pv 1) (pv 4)) (pv 9)) (pv 10)) (pv 5)) pe_int)))))))))))), ?_⟩
    cases a with
    | plus c =>
      refine ⟨_, rfl, q, _, _, .str "plus", rfl, rfl, SqL.of hq, at_of (j := 0) rfl rfl, _, rfl, q, _, _, .int c, rfl, rfl, SqL.of hq, at_of (j := 1) rfl rfl, _, rfl, _, rfl, q, _, _, .int c, rfl, rfl, SqL.of hq, (atI_last [V.str "plus"] _), (by show 3 ≤ sizeLine; decide), fun t ht => ⟨t, _, rfl, SqT.of upd_same, rfl, _, _, rfl, _, _, rfl, _, _, rfl, rfl, ?_⟩⟩
      have s1 := up (o := .tup [.str "plus", .int c, .int c]) ht
      generalize upd H t (.tup [.str "plus", .int c, .int c]) = H1 at s1 ⊢
      exact ⟨_, rfl, rfl, _, rfl, ifd_pos rfl ⟨_, rfl, _, rfl, _, _, rfl, rfl, k _ s1⟩⟩
    | told c =>
      refine ⟨_, rfl, q, _, _, .str "told", rfl, rfl, SqL.of hq, at_of (j := 0) rfl rfl, _, rfl, q, _, _, .int c, rfl, rfl, SqL.of hq, at_of (j := 1) rfl rfl, _, rfl, _, rfl, q, _, _, .int c, rfl, rfl, SqL.of hq, (atI_last [V.str "told"] _), (by show 3 ≤ sizeLine; decide), fun t ht => ⟨t, _, rfl, SqT.of upd_same, rfl, _, _, rfl, _, _, rfl, _, _, rfl, rfl, ?_⟩⟩
      have s1 := up (o := .tup [.str "told", .int c, .int c]) ht
      generalize upd H t (.tup [.str "told", .int c, .int c]) = H1 at s1 ⊢
      refine ⟨_, rfl, rfl, _, rfl, ifs_neg (show ("told" : Str) ≠ "plus" by decide) ?_⟩
      exact ⟨_, rfl, rfl, _, rfl, ifd_pos rfl ⟨_, rfl, _, rfl, _, _, rfl, rfl, _, rfl, _, rfl, n, b, rfl, b0, b1, _, _, rfl, rfl, k _ s1⟩⟩
    | whole c =>
      refine ⟨_, rfl, q, _, _, .str "whole", rfl, rfl, SqL.of hq, at_of (j := 0) rfl rfl, _, rfl, q, _, _, .int c, rfl, rfl, SqL.of hq, at_of (j := 1) rfl rfl, _, rfl, _, rfl, q, _, _, .int c, rfl, rfl, SqL.of hq, (atI_last [V.str "whole"] _), (by show 3 ≤ sizeLine; decide), fun t ht => ⟨t, _, rfl, SqT.of upd_same, rfl, _, _, rfl, _, _, rfl, _, _, rfl, rfl, ?_⟩⟩
      have s1 := up (o := .tup [.str "whole", .int c, .int c]) ht
      generalize upd H t (.tup [.str "whole", .int c, .int c]) = H1 at s1 ⊢
      refine ⟨_, rfl, rfl, _, rfl, ifs_neg (show ("whole" : Str) ≠ "plus" by decide) ?_⟩
      refine ⟨_, rfl, rfl, _, rfl, ifs_neg (show ("whole" : Str) ≠ "told" by decide) ?_⟩
      refine ⟨_, rfl, rfl, _, rfl, ifd_pos rfl ?_⟩
      have ok : 0 ≤ c ∧ c ≤ 1000 := ok
      have fb : figF b (n + c) ≤ 2003 := by
        have := fig_bits (b := b) (n := n + c) (k := 2001) b0 (by
          have e : (2 : Int) ^ 2001 = 2 ^ 2000 * 2 := Int.pow_succ ..
          have e2 : (1000 : Int) < 2 ^ 2000 := by decide
          omega)
        omega
      have fp := figF_pos (b := b) (n := n + c) b0
      refine ⟨_, rfl, _, rfl, _, _, rfl, rfl, _, rfl, n + c, b, rfl, b0, b1, ?_⟩
      have N0 : 0 ≤ n + c := by omega
      have isf := figF_is (b := b) (n := n + c) b0
      have isg := figF_is (b := b) (n := n + c + figF b (n + c)) b0
      have grow := fig_grow b0 N0 isf isg
      have k : ∀ H', Same H H' → Q (.int (totF b (n + c))) H' := k
      show gName 6 (V.int (figF b (n + c))) _ _ _
      generalize hf : figF b (n + c) = f0 at fb fp isf isg grow ⊢
      refine ⟨_, rfl, _, rfl, _, _, rfl, rfl, _, _, rfl, ⟨by omega, by omega, by omega, by omega⟩, fun D hD => ?_⟩
      have e3 : (f0 + 3 - f0).toNat = 3 := by omega
      rw [e3]
      refine lc_range (lo := f0) (n := 3) (Pv := fun j H' => Same H1 H' ∧ H' D = some (.lst ((List.range j).map fun k => V.int (n + c + (f0 + (k : Nat)))))) ⟨up hD, upd_same⟩ ?_ ?_
      · rintro j H2 hj ⟨hs, hd⟩
        refine ⟨rfl, _, rfl, _, rfl, _, _, rfl, rfl, _, rfl, _, _, rfl, rfl, _, hd, ?_, fun y o e => ?_, ?_⟩
        · rw [List.length_map, List.length_range, sizeLine_eq]
          omega
        · rw [upd_ne (ne_of_none e hD)]
          exact hs _ _ e
        · rw [upd_same, List.range_succ, List.map_append]
          rfl
      rintro H2 ⟨hs2, hd2⟩
      have s2 := s1.trans hs2
      refine ⟨_, rfl, D, _, rfl, SqL.of hd2, fun D2 hD2 => ?_⟩
      refine lc_it (walk_enum (K := K) (a := D) (xs := (List.range 3).map fun k => V.int (n + c + (f0 + (k : Nat))))) (fun j H' => Same H2 H' ∧ H' D2 = some (.lst (((List.range j).filter fun k => decide (figF b (n + c + (f0 + (k : Nat))) = (k : Nat) + f0)).map fun k => V.int (n + c + (f0 + (k : Nat)))))) ⟨up hD2, upd_same⟩ (fun j H' _ h => SqL.of (h.1 _ _ hd2)) ?_ ?_
      · rintro j x H3 H4 hj ⟨hs, hd⟩ ⟨T2, x1, x2, rfl, hT2, rfl, e1, e2⟩
        have hj3 : j < 3 := hj
        have e1 : V.int (j : Nat) = x1 := Option.some.inj e1
        subst e1
        have e2 : V.int (n + c + (f0 + (j : Nat))) = x2 := by
          have e2 : ((List.range 3).map fun k => V.int (n + c + (f0 + (k : Nat))))[j]? = some x2 := e2
          rw [List.getElem?_map, List.getElem?_range hj3] at e2
          exact Option.some.inj e2
        subst e2
        have v4 := up (o := .tup [.int (j : Nat), .int (n + c + (f0 + (j : Nat)))]) hT2
        refine ⟨T2, _, rfl, SqT.of upd_same, rfl, _, _, rfl, _, _, rfl, rfl, rfl, _, rfl, _, rfl, _, b, rfl, b0, b1, _, rfl, _, rfl, _, _, rfl, rfl, _, _, rfl, rfl, _, rfl, ifd (fun z => ?_) (fun z => ?_)⟩
        · have z : figF b (n + c + (f0 + (j : Nat))) = (j : Nat) + f0 := z
          refine ⟨_, rfl, _, v4 _ _ hd, ?_, fun y o e => ?_, ?_⟩
          · rw [List.length_map, sizeLine_eq]
            have h1 := List.length_filter_le (fun k => decide (figF b (n + c + (f0 + (k : Nat))) = (k : Nat) + f0)) (List.range j)
            rw [List.length_range] at h1
            omega
          · rw [upd_ne (ne_of_none e hD2)]
            exact v4 _ _ (hs _ _ e)
          · rw [upd_same, List.range_succ, List.filter_append, List.map_append]
            simp [z]
        · have z : ¬ figF b (n + c + (f0 + (j : Nat))) = (j : Nat) + f0 := z
          refine ⟨hs.trans v4, ?_⟩
          rw [v4 _ _ hd, List.range_succ, List.filter_append]
          simp [z]
      rintro H3 ⟨hs3, hd3⟩
      have hd3 : H3 D2 = some (.lst (((List.range 3).filter fun k => decide (figF b (n + c + (f0 + (k : Nat))) = (k : Nat) + f0)).map fun k => V.int (n + c + (f0 + (k : Nat))))) := hd3
      obtain ⟨zs, hz⟩ : ∃ zs, (((List.range 3).filter fun k => decide (figF b (n + c + (f0 + (k : Nat))) = (k : Nat) + f0)).map fun k => V.int (n + c + (f0 + (k : Nat)))) = V.int (totF b (n + c)) :: zs := by
        have e0 : n + c + (f0 + ((0 : Nat) : Int)) = n + c + f0 := by omega
        have e1 : n + c + (f0 + ((1 : Nat) : Int)) = n + c + f0 + 1 := by omega
        rcases grow with g | g
        · have t := totF_eq b0 N0 (isTot_first b0 isf (by rw [g] at isg; exact isg))
          have h0 : figF b (n + c + (f0 + ((0 : Nat) : Int))) = ((0 : Nat) : Int) + f0 := by rw [e0]; omega
          rw [show List.range 3 = [0, 1, 2] from rfl, List.filter_cons, if_pos (decide_eq_true h0), List.map_cons, e0, t]
          exact ⟨_, rfl⟩
        · have it := isTot_second b0 N0 isf (by rw [← g]; exact isg)
          have t := totF_eq b0 N0 it
          have h0 : ¬ figF b (n + c + (f0 + ((0 : Nat) : Int))) = ((0 : Nat) : Int) + f0 := by rw [e0]; omega
          have h1 : figF b (n + c + (f0 + ((1 : Nat) : Int))) = ((1 : Nat) : Int) + f0 := by
            rw [e1]
            have := figF_eq b0 it.tot
            omega
          rw [show List.range 3 = [0, 1, 2] from rfl, List.filter_cons, if_neg (by simpa using h0), List.filter_cons, if_pos (decide_eq_true h1), List.map_cons, e1, t]
          exact ⟨_, rfl⟩
      rw [hz] at hd3
      exact ⟨D2, _, _, _, rfl, rfl, SqL.of hd3, at_of (j := 0) rfl rfl, k _ (s2.trans hs3)⟩
    | pieces m c =>
      refine ⟨_, rfl, q, _, _, .str "pieces", rfl, rfl, SqL.of hq, at_of (j := 0) rfl rfl, _, rfl, q, _, _, .int m, rfl, rfl, SqL.of hq, at_of (j := 1) rfl rfl, _, rfl, _, rfl, q, _, _, .int c, rfl, rfl, SqL.of hq, (atI_last [V.str "pieces",V.int m] _), (by show 3 ≤ sizeLine; decide), fun t ht => ⟨t, _, rfl, SqT.of upd_same, rfl, _, _, rfl, _, _, rfl, _, _, rfl, rfl, ?_⟩⟩
      have s1 := up (o := .tup [.str "pieces", .int m, .int c]) ht
      generalize upd H t (.tup [.str "pieces", .int m, .int c]) = H1 at s1 ⊢
      refine ⟨_, rfl, rfl, _, rfl, ifs_neg (show ("pieces" : Str) ≠ "plus" by decide) ?_⟩
      refine ⟨_, rfl, rfl, _, rfl, ifs_neg (show ("pieces" : Str) ≠ "told" by decide) ?_⟩
      refine ⟨_, rfl, rfl, _, rfl, ifs_neg (show ("pieces" : Str) ≠ "whole" by decide) ?_⟩
      refine ⟨_, rfl, rfl, _, rfl, ifs_neg (show ("pieces" : Str) ≠ "coded" by decide) ?_⟩
      refine ⟨_, rfl, rfl, _, rfl, ifs_neg (show ("pieces" : Str) ≠ "filled" by decide) ?_⟩
      refine ⟨_, rfl, rfl, _, rfl, ifs_neg (show ("pieces" : Str) ≠ "cut" by decide) ?_⟩
      have ok : 1 ≤ m ∧ m ≤ 60 ∧ 0 ≤ c ∧ c ≤ 60 := ok
      have f1 := fig_small (b := b) (m := m) b0 ok.2.1
      have f2 := figF_pos (b := b) (n := m) b0
      refine ⟨_, rfl, .inl ⟨_, rfl, _, rfl, _, _, rfl, rfl, (by show 0 < m; omega), _, rfl, _, rfl, _, _, rfl, rfl, _, rfl, _, rfl, m, b, rfl, b0, b1, _, _, rfl, rfl, _, _, rfl, ?_⟩⟩
      have k : ∀ H', Same H H' → Q (.int (n / m * (m + c + figF b m) + (if 0 < n % m then n % m + c + figF b (n % m) else 0) + c + 1)) H' := k
      refine ⟨_, rfl, _, _, rfl, rfl, _, rfl, ifd (fun z => ?_) (fun z => ?_)⟩
      · have z : n % m > 0 := z
        rw [if_pos z] at k
        refine ⟨_, rfl, _, rfl, _, _, rfl, rfl, _, rfl, _, rfl, n % m, b, rfl, b0, b1, _, _, rfl, rfl, ?_⟩
        exact ⟨_, rfl, _, rfl, _, _, rfl, rfl, ⟨by omega, by omega⟩, _, rfl, _, _, rfl, rfl, .inr ⟨by omega, by omega⟩, _, rfl, _, _, rfl, rfl, _, rfl, _, _, rfl, rfl, _, _, rfl, rfl, k _ s1⟩
      · have z : ¬ n % m > 0 := z
        rw [if_neg z] at k
        exact ⟨_, rfl, _, rfl, _, _, rfl, rfl, ⟨by omega, by omega⟩, _, rfl, _, _, rfl, rfl, .inr ⟨by omega, by omega⟩, _, rfl, _, _, rfl, rfl, _, rfl, _, _, rfl, rfl, _, _, rfl, rfl, k _ s1⟩
    | cut m c =>
      refine ⟨_, rfl, q, _, _, .str "cut", rfl, rfl, SqL.of hq, at_of (j := 0) rfl rfl, _, rfl, q, _, _, .int m, rfl, rfl, SqL.of hq, at_of (j := 1) rfl rfl, _, rfl, _, rfl, q, _, _, .int c, rfl, rfl, SqL.of hq, (atI_last [V.str "cut",V.int m] _), (by show 3 ≤ sizeLine; decide), fun t ht => ⟨t, _, rfl, SqT.of upd_same, rfl, _, _, rfl, _, _, rfl, _, _, rfl, rfl, ?_⟩⟩
      have s1 := up (o := .tup [.str "cut", .int m, .int c]) ht
      generalize upd H t (.tup [.str "cut", .int m, .int c]) = H1 at s1 ⊢
      refine ⟨_, rfl, rfl, _, rfl, ifs_neg (show ("cut" : Str) ≠ "plus" by decide) ?_⟩
      refine ⟨_, rfl, rfl, _, rfl, ifs_neg (show ("cut" : Str) ≠ "told" by decide) ?_⟩
      refine ⟨_, rfl, rfl, _, rfl, ifs_neg (show ("cut" : Str) ≠ "whole" by decide) ?_⟩
      refine ⟨_, rfl, rfl, _, rfl, ifs_neg (show ("cut" : Str) ≠ "coded" by decide) ?_⟩
      refine ⟨_, rfl, rfl, _, rfl, ifs_neg (show ("cut" : Str) ≠ "filled" by decide) ?_⟩
      have ok : 1 ≤ m ∧ m ≤ 60 ∧ 0 ≤ c ∧ c ≤ 60 := ok
      refine ⟨_, rfl, rfl, _, rfl, ifd_pos rfl ⟨_, rfl, _, rfl, _, rfl, _, rfl, n, m, rfl, ok.1, ok.2.1, _, _, rfl, rfl, .inl ⟨by omega, by omega⟩, _, _, rfl, rfl, ?_⟩⟩
      have := k _ s1
      simp only [Wr.gr] at this
      show Q (.int (n + c * beg n m)) H1
      rw [Int.mul_comm c]
      exact this
    | coded m c =>
      refine ⟨_, rfl, q, _, _, .str "coded", rfl, rfl, SqL.of hq, at_of (j := 0) rfl rfl, _, rfl, q, _, _, .int m, rfl, rfl, SqL.of hq, at_of (j := 1) rfl rfl, _, rfl, _, rfl, q, _, _, .int c, rfl, rfl, SqL.of hq, (atI_last [V.str "coded",V.int m] _), (by show 3 ≤ sizeLine; decide), fun t ht => ⟨t, _, rfl, SqT.of upd_same, rfl, _, _, rfl, _, _, rfl, _, _, rfl, rfl, ?_⟩⟩
      have s1 := up (o := .tup [.str "coded", .int m, .int c]) ht
      generalize upd H t (.tup [.str "coded", .int m, .int c]) = H1 at s1 ⊢
      refine ⟨_, rfl, rfl, _, rfl, ifs_neg (show ("coded" : Str) ≠ "plus" by decide) ?_⟩
      refine ⟨_, rfl, rfl, _, rfl, ifs_neg (show ("coded" : Str) ≠ "told" by decide) ?_⟩
      refine ⟨_, rfl, rfl, _, rfl, ifs_neg (show ("coded" : Str) ≠ "whole" by decide) ?_⟩
      have ok : 1 ≤ m ∧ m ≤ 60 ∧ m ≤ c ∧ c ≤ 120 := ok
      refine ⟨_, rfl, rfl, _, rfl, ifd_pos rfl ⟨_, rfl, _, rfl, _, rfl, n, m, rfl, ok.1, ok.2.1, _, _, rfl, rfl, .inl ⟨by omega, by omega⟩, ?_⟩⟩
      have := k _ s1
      simp only [Wr.gr] at this
      show Q (.int (c * beg n m)) H1
      rw [Int.mul_comm c]
      exact this
    | filled m =>
      refine ⟨_, rfl, q, _, _, .str "filled", rfl, rfl, SqL.of hq, at_of (j := 0) rfl rfl, _, rfl, q, _, _, .int m, rfl, rfl, SqL.of hq, at_of (j := 1) rfl rfl, _, rfl, _, rfl, q, _, _, .int m, rfl, rfl, SqL.of hq, (atI_last [V.str "filled"] _), (by show 3 ≤ sizeLine; decide), fun t ht => ⟨t, _, rfl, SqT.of upd_same, rfl, _, _, rfl, _, _, rfl, _, _, rfl, rfl, ?_⟩⟩
      have s1 := up (o := .tup [.str "filled", .int m, .int m]) ht
      generalize upd H t (.tup [.str "filled", .int m, .int m]) = H1 at s1 ⊢
      refine ⟨_, rfl, rfl, _, rfl, ifs_neg (show ("filled" : Str) ≠ "plus" by decide) ?_⟩
      refine ⟨_, rfl, rfl, _, rfl, ifs_neg (show ("filled" : Str) ≠ "told" by decide) ?_⟩
      refine ⟨_, rfl, rfl, _, rfl, ifs_neg (show ("filled" : Str) ≠ "whole" by decide) ?_⟩
      refine ⟨_, rfl, rfl, _, rfl, ifs_neg (show ("filled" : Str) ≠ "coded" by decide) ?_⟩
      have ok : 1 ≤ m ∧ m ≤ 60 := ok
      refine ⟨_, rfl, rfl, _, rfl, ifd_pos rfl ⟨_, rfl, _, rfl, _, rfl, n, m, rfl, ok.1, ok.2, _, _, rfl, rfl, .inl ⟨by omega, by omega⟩, ?_⟩⟩
      have := k _ s1
      simp only [Wr.gr] at this
      show Q (.int (m * beg n m)) H1
      rw [Int.mul_comm m]
      exact this
theorem ok_L_size (T : Tx w K mg) : Prom P w K mg base CX0 3 "_law_size" s_L_size ["_law_root_here", "_law_plans_here", "_law_n"] spSizeP := by
  refine Prom.of T.d_L_size sc_L_size (fun vs H Q E h => ?_) (fun _ _ _ _ _ _ us hl => match us, hl with | [_, _, _], _ => rfl) (fun f cdv A outer s H vs Q E hr h => ?_)
  · obtain ⟨l, b, n, xs, ws, rfl, _⟩ := h
    rfl
  · obtain ⟨l, b, n, xs, ws, rfl, hl, hw, so, n0, n1, k⟩ := h
    have l6 := so.len
    refine ⟨_, (pss_cons (ps_for PassesOwn.never (by rfl) (pi_list (pv 1)) (pg_name (i := 3) sc_L_size.nd rfl (Or.inl rfl)) (pss_one (ps_set (i := 2) sc_L_size.nd rfl (Or.inl rfl) (pe_callP (ok_L_grown T) (hr.mono (by decide)) (by rfl) pass0 (pa_cons (pv 3) (pa_cons (pv 2) (pa_cons (pv 0) pa_nil)))))))
      (pss_one (ps_ret (pv 2)))), ?_⟩
    refine ⟨_, rfl, l, rfl, ⟨_, SqL.of hl⟩, for_list (K := K) (a := l) (xs := xs) (fun i σ H' => Same H H' ∧ ∃ v : Option V, σ = [some (.int b), some (.ref l), some (.int (grS b (ws.take i) n)), v]) ⟨Same.refl _, none, rfl⟩ (fun i σ H' _ h => SqL.of (h.1 _ _ hl)) ?_ ?_⟩
    · rintro i x σ H1 hi ⟨hs, v, rfl⟩
      obtain ⟨q, a, rfl, ha, hq⟩ := (hw.same hs).get hi
      have oka := so.ok a (List.mem_of_getElem? ha)
      have et : grS b (ws.take (i + 1)) n = a.gr b (grS b (ws.take i) n) := by
        unfold grS
        rw [List.take_succ, ha, List.foldl_append]
        rfl
      have hlt : (ws.take i).length ≤ 6 := by
        rw [List.length_take]
        omega
      have bd := grS_pow so.b0 (ws.take i) (fun z hz => so.ok z (List.mem_of_mem_take hz)) (show 12 ≤ 200 by decide) n0 (Int.lt_of_le_of_lt n1 (by decide))
      have bd2 : grS b (ws.take i) n < 2 ^ 2000 := Int.lt_of_lt_of_le bd.2 (pow_mono (by decide) (by omega))
      rw [et]
      exact ⟨_, rfl, _, rfl, _, rfl, q, a, _, b, rfl, hq, oka, so.b0, so.b1, bd.1, bd2, fun H2 s2 => ⟨hs.trans s2, _, rfl⟩⟩
    · rintro σ H1 ⟨hs, v, rfl⟩
      rw [hw.len, List.take_length]
      exact ⟨_, rfl, k _ hs⟩
end
/-! ### heaps and slots -/
theorem same_up {H : Hp} {p : Addr} {o : HO} (hp : H p = none) : Same H (upd H p o) := fun x o e => by
  rw [upd_ne (ne_of_none e hp)]
  exact e
theorem gn {i : Nat} {x : V} {σ : L2.St} {H : Hp} {k : L2.St → Hp → Prop} (h : k (σ.set i (some x)) H) : gName i x σ H k := h
theorem st_eq {F : L2.St → Hp → Prop} {σ : L2.St} {H : Hp} (σ' : L2.St) (e : σ = σ') (k : F σ' H) : F σ H := e ▸ k
theorem hp_eq {F : L2.St → Hp → Prop} {σ : L2.St} {H : Hp} (H2 : Hp) (e : H = H2) (k : F σ H2) : F σ H := e ▸ k
theorem hp_new {F : L2.St → Hp → Prop} {σ : L2.St} {H : Hp} {w : Addr} {o : HO} (h : H w = none) (k : ∀ G, Same H G → G w = some o → F σ G) : F σ (upd H w o) := k _ (up h) upd_same
theorem hp_new2 {F : L2.St → Hp → Prop} {σ : L2.St} {H : Hp} {w w2 : Addr} {o o2 : HO} (h2 : H w2 = none) (h : upd H w2 o2 w = none) (k : ∀ G, Same H G → G w = some o → F σ G) : F σ (upd (upd H w2 o2) w o) := k _ (fun _ _ e => up h _ _ (up h2 _ _ e)) upd_same
/-! ### the integer that a word tells -/
def spAmount : Sp := fun vs H Q _ => ∃ s : Str, vs = [.str s] ∧ s.length ≤ 2000 ∧ Q (.int (numV s)) H
theorem str_dec {a b : Str} : decide (V.str a = V.str b) = decide (a = b) := by
  by_cases h : a = b
  · rw [decide_eq_true h, decide_eq_true (congrArg V.str h)]
  · rw [decide_eq_false h, decide_eq_false fun z => h (by cases z; rfl)]
theorem str_ne_nil {s : Str} (h : s ≠ "") : ∃ c cs, s.cps.toList = c :: cs := by
  match e : s.cps.toList with
  | c :: cs => exact ⟨c, cs, rfl⟩
  | [] =>
    refine absurd ?_ h
    have : s.cps = #[] := by
      rw [← Array.toList_inj]
      exact e
    cases s
    cases this
    rfl
theorem ite_same2 {b : Bool} {A R : Prop} (h : b = true → R → A) (r : R) : if b = true then A else R := by
  cases b with
  | false => exact r
  | true => exact h rfl r
section
variable {P : Program} {w : World} {K : PySem.W.Frag} {mg : Str → Option Value} {base : Heap}
theorem ok_amount_of (T : Tx w K mg) : Prom P w K mg base CX0 2 "amount_of" s_amount_of ["word"] spAmount := by
  refine Prom.of T.d_amount_of sc_amount_of (fun vs H Q E h => ?_) (fun _ _ _ _ _ _ us hl => match us, hl with | [_], _ => rfl) (fun f cdv A outer s H vs Q E hr h => ?_)
  · obtain ⟨z, rfl, _⟩ := h
    rfl
  · obtain ⟨z, rfl, hz, k⟩ := h
    refine ⟨_, (pss_cons (ps_if (PW.pt (pw_or (pt_cmpR op_eq (pv 0) pe_str (nomark _)) (pw_or1 (PW.pt (pw_and (pt_cmpR op_eq (pe_ix ix_str (pv 0) pe_int (fun _ _ => rfl)) pe_str (nomark _)) (pw_and1 (pt_cmpR op_ne (pv 0) pe_str (nomark _)))))))) (pss_one (ps_ret (pe_un un_neg pe_int))) pss_nil)
      (pss_cons (ps_set (i := 1) sc_amount_of.nd rfl (Or.inl rfl) pe_int)
      (pss_cons (ps_for PassesOwn.never (by rfl) (pi_str (pv 0)) (pg_name (i := 2) sc_amount_of.nd rfl (Or.inl rfl)) (pss_cons (ps_if (pt_cmpR op_notIn_sign (pv 2) (pe_gstr T.c_TENS) (by rfl)) (pss_one (ps_ret (pe_un un_neg pe_int))) pss_nil)
      (pss_one (ps_set (i := 1) sc_amount_of.nd rfl (Or.inl rfl) (pe_op op_add (pe_op op_mul pe_int (pv 1)) (pe_sindex (pe_gstr T.c_TENS) (pv 2)))))))
      (pss_one (ps_ret (pv 1)))))), ?_⟩
    have hz2 : z.length ≤ sizeLine := Nat.le_trans hz (by decide)
    by_cases e0 : z = ""
    · subst e0
      refine ⟨_, rfl, rfl, _, rfl, iteT ?_⟩
      exact iteT ⟨_, rfl, k⟩
    obtain ⟨c, cs, ec⟩ := str_ne_nil e0
    refine ⟨_, rfl, rfl, _, rfl, ifd (fun x => absurd (by cases x; rfl) e0) (fun _ => ?_)⟩
    refine ⟨_, rfl, _, _, c, rfl, rfl, hz2, atI_nat (j := 0) (by rw [ec]; rfl), rfl, _, rfl, ?_⟩
    by_cases e1 : z.cps.toList[0]? = some 48 ∧ z ≠ "0"
    · have ec0 : c = 48 := by
        have := e1.1
        rw [ec] at this
        exact Option.some.inj this
      refine ifd (fun _ => ?_) (fun x => absurd (by rw [ec0]; rfl) x)
      refine ⟨_, rfl, rfl, _, rfl, ifn (fun _ => ?_) (fun x => absurd (by cases x; rfl) e1.2)⟩
      refine ⟨_, rfl, ?_⟩
      rw [numV_zero e0 e1.1 e1.2] at k
      exact k
    refine ite_same2 (fun x r => ⟨_, rfl, rfl, _, rfl, ?_⟩) ?_
    · have ez : z = "0" := by
        refine Decidable.byContradiction fun y => e1 ⟨?_, y⟩
        rw [ec]
        have x := of_decide_eq_true x
        cases x
        rfl
      rw [show (!decide (V.str z = V.str (Str.ofString "0"))) = false by rw [ez]; rfl]
      exact r
    refine iteF ?_
    refine ⟨_, rfl, ?_⟩
    refine ⟨_, rfl, for_str (z := z) (fun i σ H' => H' = H ∧ (∀ c ∈ z.cps.toList.take i, dig c = true) ∧ ∃ e, σ = [some (.str z), some (.int (digV (z.cps.toList.take i))), e]) ⟨rfl, fun c hc => by simp at hc, none, rfl⟩ ?_ ?_⟩
    · rintro i d σ H' hd ⟨rfl, hall, e, rfl⟩
      refine ⟨_, rfl, d, _, rfl, rfl, _, rfl, ?_⟩
      rw [show decide (d ∈ (Str.ofString "0123456789").cps.toList) = dig d from tens_mem d]
      cases hg : dig d with
      | false =>
        refine iteT ⟨_, rfl, ?_⟩
        rw [numV_not (List.mem_of_getElem? hd) hg] at k
        exact k
      | true =>
        have hd2 := of_decide_eq_true hg
        have ed : d = 48 + (⟨d - 48, by omega⟩ : Fin 10).val := by
          show d = 48 + (d - 48)
          omega
        have et : z.cps.toList.take (i + 1) = z.cps.toList.take i ++ [d] := by
          rw [List.take_succ, hd]
          rfl
        refine iteF ?_
        refine ⟨_, rfl, _, _, rfl, rfl, .inl ⟨by decide, by decide⟩, ⟨_, rfl⟩, _, rfl, _, _, _, [], rfl, rfl, (by rw [ed]; exact tens_at _), _, _, rfl, rfl, ?_⟩
        refine ⟨rfl, fun c hc => ?_, some (.str ⟨#[d]⟩), ?_⟩
        · rw [et, List.mem_append, List.mem_singleton] at hc
          rcases hc with hc | rfl
          · exact hall c hc
          · exact hg
        · rw [et, digV_snoc]
          have e2 : ((d - 48 : Nat) : Int) = (d : Int) - 48 := by omega
          rw [← e2]
          rfl
    · rintro σ H' ⟨rfl, hall, e, rfl⟩
      have e2 : z.cps.toList.take z.length = z.cps.toList := List.take_of_length_le (by simp [Str.length])
      rw [e2] at hall ⊢
      rw [numV_all e0 e1 hall] at k
      exact ⟨_, rfl, k⟩
end
/-! ### the wrap that a text tells -/
/-- the wrap of a kind with numbers, if there is one -/
def mkW (kd : Str) (ns : List Int) : Option Wr := match ns with
  | [c] => if kd = "plus" then (if 0 ≤ c ∧ c ≤ 1000 then some (.plus c) else none)
      else if kd = "told" then (if 0 ≤ c ∧ c ≤ 1000 then some (.told c) else none)
      else if kd = "whole" then (if 0 ≤ c ∧ c ≤ 1000 then some (.whole c) else none)
      else if kd = "filled" then (if 1 ≤ c ∧ c ≤ 60 then some (.filled c) else none)
      else none
  | [m, c] => if kd = "pieces" then (if 1 ≤ m ∧ m ≤ 60 ∧ 0 ≤ c ∧ c ≤ 60 then some (.pieces m c) else none)
      else if kd = "cut" then (if 1 ≤ m ∧ m ≤ 60 ∧ 0 ≤ c ∧ c ≤ 60 then some (.cut m c) else none)
      else if kd = "coded" then (if 1 ≤ m ∧ m ≤ 60 ∧ m ≤ c ∧ c ≤ 120 then some (.coded m c) else none)
      else none
  | _ => none
theorem mkW_spec {kd : Str} {ns : List Int} {a : Wr} (h : mkW kd ns = some a) : a.kind = kd ∧ a.nums = ns ∧ a.ok := by
  unfold mkW at h
  split at h
  · repeat' split at h
    all_goals first | (cases h; done) | skip
    all_goals
      rename_i hk hc
      cases h
      exact ⟨hk.symm, rfl, hc⟩
  · repeat' split at h
    all_goals first | (cases h; done) | skip
    all_goals
      rename_i hk hc
      cases h
      exact ⟨hk.symm, rfl, hc⟩
  · cases h
theorem mkW_ok {a : Wr} (h : a.ok) : mkW a.kind a.nums = some a := by
  cases a with
  | plus c => exact if_pos h
  | told c => exact if_pos h
  | whole c => exact if_pos h
  | filled c => exact if_pos h
  | pieces m c => exact if_pos h
  | cut m c => exact if_pos h
  | coded m c => exact if_pos h
theorem kinds_rep {kd : Str} (h : kd ∈ kinds7) : ∃ a : Wr, a.kind = kd := by
  have h : kd ∈ [("plus" : Str), "told", "whole", "pieces", "cut", "coded", "filled"] := h
  simp only [List.mem_cons, List.not_mem_nil, or_false] at h
  rcases h with rfl | rfl | rfl | rfl | rfl | rfl | rfl
  · exact ⟨.plus 0, rfl⟩
  · exact ⟨.told 0, rfl⟩
  · exact ⟨.whole 0, rfl⟩
  · exact ⟨.pieces 1 0, rfl⟩
  · exact ⟨.cut 1 0, rfl⟩
  · exact ⟨.coded 1 1, rfl⟩
  · exact ⟨.filled 1, rfl⟩
theorem kind_mem (a : Wr) : a.kind ∈ kinds7 := by
  cases a with
  | plus _ => exact (show ("plus" : Str) ∈ kinds7 by decide)
  | told _ => exact (show ("told" : Str) ∈ kinds7 by decide)
  | whole _ => exact (show ("whole" : Str) ∈ kinds7 by decide)
  | pieces _ _ => exact (show ("pieces" : Str) ∈ kinds7 by decide)
  | cut _ _ => exact (show ("cut" : Str) ∈ kinds7 by decide)
  | coded _ _ => exact (show ("coded" : Str) ∈ kinds7 by decide)
  | filled _ => exact (show ("filled" : Str) ∈ kinds7 by decide)
def rlen (k : Str) : Nat := if k = "pieces" ∨ k = "cut" ∨ k = "coded" then 2 else 1
theorem rng_rlen (a : Wr) : a.rng.length = rlen a.kind := by
  cases a with
  | plus _ => exact (show 1 = rlen "plus" by decide)
  | told _ => exact (show 1 = rlen "told" by decide)
  | whole _ => exact (show 1 = rlen "whole" by decide)
  | pieces _ _ => exact (show 2 = rlen "pieces" by decide)
  | cut _ _ => exact (show 2 = rlen "cut" by decide)
  | coded _ _ => exact (show 2 = rlen "coded" by decide)
  | filled _ => exact (show 1 = rlen "filled" by decide)
theorem mkW_out {kd : Str} (h : kd ∉ kinds7) (ns : List Int) : mkW kd ns = none := by
  cases e : mkW kd ns with
  | none => rfl
  | some a =>
    refine absurd ?_ h
    rw [← (mkW_spec e).1]
    exact kind_mem a
theorem mkW_len {a0 : Wr} {ns : List Int} (h : ns.length ≠ a0.rng.length) : mkW a0.kind ns = none := by
  cases e : mkW a0.kind ns with
  | none => rfl
  | some a =>
    refine absurd ?_ h
    obtain ⟨e1, e2, _⟩ := mkW_spec e
    rw [← e2, nums_len, rng_rlen, rng_rlen, e1]
theorem len_two {ns : List Int} (h : ns.length = 2) : ∃ m c, ns = [m, c] := by
  match ns, h with
  | [m, c], _ => exact ⟨m, c, rfl⟩
theorem fault_mk {a0 : Wr} {ns : List Int} (h : ns.length = a0.rng.length) : (faultV a0 ns = .non ∧ ∃ a, mkW a0.kind ns = some a) ∨ (faultV a0 ns ≠ .non ∧ mkW a0.kind ns = none) := by
  cases a0 with
  | plus c0 =>
    obtain ⟨c, rfl⟩ : ∃ c, ns = [c] := List.length_eq_one_iff.mp h
    by_cases k : 0 ≤ c ∧ c ≤ 1000
    · exact .inl ⟨fault_ok (a := .plus c) k, _, mkW_ok (a := .plus c) k⟩
    · refine .inr ⟨?_, if_neg k⟩
      unfold faultV
      rw [show faultL (Wr.plus c0).rng [c] 0 = some 0 from if_neg k]
      exact fun z => by cases z
  | told c0 =>
    obtain ⟨c, rfl⟩ : ∃ c, ns = [c] := List.length_eq_one_iff.mp h
    by_cases k : 0 ≤ c ∧ c ≤ 1000
    · exact .inl ⟨fault_ok (a := .told c) k, _, mkW_ok (a := .told c) k⟩
    · refine .inr ⟨?_, if_neg k⟩
      unfold faultV
      rw [show faultL (Wr.told c0).rng [c] 0 = some 0 from if_neg k]
      exact fun z => by cases z
  | whole c0 =>
    obtain ⟨c, rfl⟩ : ∃ c, ns = [c] := List.length_eq_one_iff.mp h
    by_cases k : 0 ≤ c ∧ c ≤ 1000
    · exact .inl ⟨fault_ok (a := .whole c) k, _, mkW_ok (a := .whole c) k⟩
    · refine .inr ⟨?_, if_neg k⟩
      unfold faultV
      rw [show faultL (Wr.whole c0).rng [c] 0 = some 0 from if_neg k]
      exact fun z => by cases z
  | filled c0 =>
    obtain ⟨c, rfl⟩ : ∃ c, ns = [c] := List.length_eq_one_iff.mp h
    by_cases k : 1 ≤ c ∧ c ≤ 60
    · exact .inl ⟨fault_ok (a := .filled c) k, _, mkW_ok (a := .filled c) k⟩
    · refine .inr ⟨?_, if_neg k⟩
      unfold faultV
      rw [show faultL (Wr.filled c0).rng [c] 0 = some 0 from if_neg k]
      exact fun z => by cases z
  | pieces m0 c0 =>
    obtain ⟨m, c, rfl⟩ : ∃ m c, ns = [m, c] := len_two h
    by_cases k : 1 ≤ m ∧ m ≤ 60 ∧ 0 ≤ c ∧ c ≤ 60
    · exact .inl ⟨fault_ok (a := .pieces m c) k, _, mkW_ok (a := .pieces m c) k⟩
    · refine .inr ⟨?_, if_neg k⟩
      unfold faultV
      rw [show faultL (Wr.pieces m0 c0).rng [m, c] 0 = if 1 ≤ m ∧ m ≤ 60 then (if 0 ≤ c ∧ c ≤ 60 then none else some 1) else some 0 from rfl]
      by_cases km : 1 ≤ m ∧ m ≤ 60
      · rw [if_pos km]
        by_cases kc : 0 ≤ c ∧ c ≤ 60
        · exact absurd ⟨km.1, km.2, kc⟩ k
        · rw [if_neg kc]
          exact fun z => by cases z
      · rw [if_neg km]
        exact fun z => by cases z
  | cut m0 c0 =>
    obtain ⟨m, c, rfl⟩ : ∃ m c, ns = [m, c] := len_two h
    by_cases k : 1 ≤ m ∧ m ≤ 60 ∧ 0 ≤ c ∧ c ≤ 60
    · exact .inl ⟨fault_ok (a := .cut m c) k, _, mkW_ok (a := .cut m c) k⟩
    · refine .inr ⟨?_, if_neg k⟩
      unfold faultV
      rw [show faultL (Wr.cut m0 c0).rng [m, c] 0 = if 1 ≤ m ∧ m ≤ 60 then (if 0 ≤ c ∧ c ≤ 60 then none else some 1) else some 0 from rfl]
      by_cases km : 1 ≤ m ∧ m ≤ 60
      · rw [if_pos km]
        by_cases kc : 0 ≤ c ∧ c ≤ 60
        · exact absurd ⟨km.1, km.2, kc⟩ k
        · rw [if_neg kc]
          exact fun z => by cases z
      · rw [if_neg km]
        exact fun z => by cases z
  | coded m0 c0 =>
    obtain ⟨m, c, rfl⟩ : ∃ m c, ns = [m, c] := len_two h
    by_cases k : 1 ≤ m ∧ m ≤ 60 ∧ m ≤ c ∧ c ≤ 120
    · exact .inl ⟨fault_ok (a := .coded m c) k, _, mkW_ok (a := .coded m c) k⟩
    · refine .inr ⟨?_, if_neg k⟩
      unfold faultV
      rw [show faultL (Wr.coded m0 c0).rng [m, c] 0 = if 1 ≤ m ∧ m ≤ 60 then (if 1 ≤ c ∧ c ≤ 120 then none else some 1) else some 0 from rfl]
      by_cases km : 1 ≤ m ∧ m ≤ 60
      · rw [if_pos km]
        by_cases kc : 1 ≤ c ∧ c ≤ 120
        · rw [if_pos kc]
          show (if (Wr.coded m0 c0).kind = "coded" ∧ c < m then V.int 1 else .non) ≠ .non
          rw [if_pos ⟨rfl, by omega⟩]
          exact fun z => by cases z
        · rw [if_neg kc]
          exact fun z => by cases z
      · rw [if_neg km]
        exact fun z => by cases z
def rdW (t : Str) : Option Wr := match Txt.split t " " with
  | kd :: ws => mkW kd (ws.map numV)
  | [] => none
def spWrapIn (K : PySem.W.Frag) : Sp := fun vs H Q _ => ∃ t : Str, vs = [.str t] ∧ t.length ≤ 1000 ∧ (∀ H', Same H H' → rdW t = none → Q .non H') ∧ ∀ a q H', rdW t = some a → H q = none → Same H H' → WrapAt K H' q a → Q (.ref q) H'
section
variable {P : Program} {w : World} {K : PySem.W.Frag} {mg : Str → Option Value} {base : Heap}
theorem ok_wrap_in (T : Tx w K mg) : Prom P w K mg base CX0 6 "wrap_in" s_wrap_in ["text"] (spWrapIn K) := by
  refine Prom.of T.d_wrap_in sc_wrap_in (fun vs H Q E h => ?_) (fun _ _ _ _ _ _ us hl => match us, hl with | [_], _ => rfl) (fun f cdv A outer s H vs Q E hr h => ?_)
  · obtain ⟨z, rfl, _⟩ := h
    rfl
  · obtain ⟨z, rfl, hz, k0, k⟩ := h
    obtain ⟨es, en, kd⟩ := T.kd
    refine ⟨_, (pss_cons (ps_set (i := 1) sc_wrap_in.nd rfl (Or.inl rfl) (pe_split (pv 0) pe_str))
      (pss_cons (ps_par (i := 2) (j := 3) (by rfl) sc_wrap_in.nd rfl rfl (by decide) rfl rfl (pa_cons (pe_ix ix_list (pv 1) pe_int (fun _ _ => rfl)) (pa_cons (pe_lc (own := [("word", 4)]) (g := (gName 4)) (tt := tYes) (by rfl) sc_wrap_in.nd (pi_list (pe_slice sl_list (pv 1) (po_some pe_int) po_none)) (blkOk_by (own := [("word", 4)]) (N := ["text", "words", "kind", "numbers", "word"]) (sc := defScope s_wrap_in) (by decide +kernel)) (fun _ _ _ _ _ => (pg_name (i := 4) sc_wrap_in.nd rfl (Or.inl rfl))) (fun _ _ _ _ _ => pts_nil) (fun _ _ _ _ _ => (pe_callP (ok_amount_of T) (hr.mono (by decide)) (by rfl) pass0 (pa_cons (pv 4) pa_nil)))) pa_nil)) (by rfl))
      (pss_cons (ps_if (PW.pt (pw_or (pt_cmpR (op_notIn_kd kd) (pv 2) (pe_glob (v := .ref _) (by rfl) T.k_RANGES rfl) (by rfl)) (pw_or (pt_cmp (pc_neI (pe_callB call_len_seq (by rfl) T.b_len (by decide +kernel) (pa_cons (pv 3) pa_nil)) (pe_callB call_len_seq (by rfl) T.b_len (by decide +kernel) (pa_cons (pe_ix ix_kdict (pe_glob (v := .ref _) (by rfl) T.k_RANGES rfl) (pv 2) (fun _ _ => rfl)) pa_nil)))) (pw_or1 (pt_cmpR op_notN (pe_callP (ok_fault_in T) (hr.mono (by decide)) (by rfl) pass0 (pa_cons (pv 2) (pa_cons (pv 3) pa_nil))) pe_non (nomark _)))))) (pss_one (ps_ret pe_non)) pss_nil)
      (pss_one (ps_ret (pe_newS (ok_Wrap T) (hr.mono (by decide)) (by rfl) pass0 (pa_cons (pv 2) (StX.pa_star (pv 3) pa_nil)))))))), ?_⟩
    obtain ⟨kw, ws, es1⟩ : ∃ kw ws, Txt.split z " " = kw :: ws := by
      match e : Txt.split z " " with
      | k :: ws => exact ⟨k, ws, rfl⟩
      | [] =>
        have := split_pos z " "
        rw [e] at this
        simp at this
    have short : ∀ y ∈ ws, y.length ≤ 1000 := fun y hy => Nat.le_trans (part_short (x := z) (y := " ") (by rw [es1]; exact .tail _ hy)) hz
    have er : rdW z = mkW kw (ws.map numV) := by
      unfold rdW
      rw [es1]
    have hws : ws.length ≤ 1002 := by
      have := split_le z " "
      rw [es1, List.length_cons] at this
      omega
    refine ⟨_, rfl, ⟨_, rfl⟩, _, _, rfl, rfl, by decide +kernel, Nat.le_trans (Nat.add_le_add_right hz 2) (by decide), fun l hl => ?_⟩
    rw [es1]
    refine ⟨_, rfl, l, _, _, _, rfl, rfl, SqL.of upd_same, at_of (j := 0) rfl rfl, ?_⟩
    refine ⟨_, rfl, _, rfl, l, _, rfl, SqL.of upd_same, fun q hq => ?_⟩
    have ecut : cutV ((kw :: ws).map V.str) (some 1) none = ws.map V.str := by
      have e : HT.sIx ((kw :: ws).map V.str).length 0 (some 1) = min 1 ((kw :: ws).map V.str).length := HT.sIx_nat _ 0 1
      unfold cutV
      rw [e, HT.sIx_none, List.length_map, List.length_cons, Nat.min_eq_left (by omega)]
      show (ws.map V.str).take (ws.length + 1 - 1) = ws.map V.str
      rw [Nat.add_sub_cancel, List.take_of_length_le (by rw [List.length_map]; omega)]
    rw [ecut]
    have s1 : Same H (upd H l (.lst ((kw :: ws).map V.str))) := up hl
    have s2 := up (o := .lst (ws.map V.str)) hq
    refine ⟨q, rfl, ⟨_, SqL.of upd_same⟩, fun D hD => ?_⟩
    have sD := up (o := .lst []) hD
    obtain ⟨H0, e0⟩ : ∃ H0, H0 = upd (upd H l (.lst ((kw :: ws).map V.str))) q (.lst (ws.map V.str)) := ⟨_, rfl⟩
    rw [← e0] at hD sD ⊢
    have s0 : Same H H0 := by
      rw [e0]
      exact fun a o e => s2 _ _ (s1 _ _ e)
    have gq : H0 q = some (.lst (ws.map V.str)) := by
      rw [e0]
      exact upd_same
    refine lc_list (K := K) (a := q) (xs := ws.map V.str) (Pv := fun j H' => Same H0 H' ∧ H' D = some (.lst (((ws.take j).map numV).map V.int))) ⟨sD, upd_same⟩ (fun j H' _ h => SqL.of (h.1 _ _ gq)) ?_ ?_
    · rintro j x H1 hj ⟨hs, hd⟩
      obtain ⟨y, hy, rfl⟩ : ∃ y, ws[j]? = some y ∧ x = V.str y := by
        rw [List.getElem?_map] at hj
        cases e : ws[j]? with
        | none =>
          rw [e] at hj
          cases hj
        | some n =>
          rw [e] at hj
          exact ⟨n, rfl, (Option.some.inj hj).symm⟩
      have hjl : j < ws.length := by
        rcases List.getElem?_eq_some_iff.mp hy with ⟨z, _⟩
        exact z
      refine ⟨rfl, _, rfl, y, rfl, Nat.le_trans (short y (List.mem_of_getElem? hy)) (by decide), _, hd, ?_, fun y o e => ?_, ?_⟩
      · rw [List.length_map, List.length_map, List.length_take, sizeLine_eq]
        omega
      · rw [upd_ne (ne_of_none e hD)]
        exact hs _ _ e
      · rw [upd_same, List.take_succ, hy, List.map_append, List.map_append]
        rfl
    rintro H1 ⟨hs, hd⟩
    rw [List.length_map, List.take_length] at hd
    have sH : Same H H1 := fun a o e => hs _ _ (s0 _ _ e)
    clear hD sD e0 s2 ecut hq hl s1
    obtain ⟨ns, ens⟩ : ∃ ns, ns = ws.map numV := ⟨_, rfl⟩
    rw [← ens] at hd er
    refine ⟨_, _, rfl, ?_⟩
    refine st_eq [some (.str z), some (.ref l), some (.str kw), some (.ref D), none] rfl ?_
    by_cases hk : kw ∈ kinds7
    · obtain ⟨a0, rfl⟩ := kinds_rep hk
      obtain ⟨b, xs, hb, hq', hp⟩ := T.rg a0
      refine ⟨_, rfl, _, some (.ref b), rfl, rfl, hb, _, rfl, iteF ?_⟩
      refine ⟨_, rfl, D, _, rfl, .inl (SqL.of hd), _, rfl, _, _, .ref b, rfl, rfl, ⟨es, en, _, kd.at_, kd.lit, hb, rfl⟩, b, xs, rfl, .inr (hq' _), _, _, rfl, rfl, ?_⟩
      have nil : rdW z = none → Q .non H1 := k0 _ sH
      refine ⟨_, rfl, ifn (fun c => ?_) (fun c => ?_)⟩
      · have c : ¬ ((ns.map V.int).length : Int) = (xs.length : Int) := c
        refine iteT (nil ?_)
        rw [er]
        refine mkW_len fun e => c ?_
        rw [List.length_map, hp.len, e]
      · have c : ((ns.map V.int).length : Int) = (xs.length : Int) := c
        have el : ns.length = a0.rng.length := by
          rw [List.length_map, hp.len] at c
          omega
        refine ⟨_, rfl, _, rfl, a0, ns, D, rfl, .inl (SqL.of hd), el, fun H2 s2 => ?_⟩
        have sH2 : Same H H2 := fun a o e => s2 _ _ (sH _ _ e)
        refine ⟨rfl, _, rfl, ?_⟩
        rcases fault_mk el with ⟨e, a, ea⟩ | ⟨e, en⟩
        · refine ifn (fun x => absurd e x) (fun _ => ?_)
          obtain ⟨e1, e2, ok⟩ := mkW_spec ea
          refine ⟨_, rfl, _, rfl, D, _, rfl, .inr (SqL.of (s2 _ _ hd)), a, ?_, ok, fun q3 H3 n3 s3 w3 => ?_⟩
          · show V.str a0.kind :: (ns.map V.int ++ []) = _
            rw [e1, e2, List.append_nil]
          · refine k a q3 H3 (by rw [er]; exact ea) ?_ (fun x o e => s3 _ _ (sH2 _ _ e)) w3
            cases e3 : H q3 with
            | none => rfl
            | some o =>
              rw [sH2 _ _ e3] at n3
              cases n3
        · refine ifn (fun _ => ?_) (fun x => absurd x e)
          exact k0 _ sH2 (by rw [er]; exact en)
    · refine ⟨_, rfl, _, none, rfl, rfl, T.rn kw hk, _, rfl, iteT ?_⟩
      refine iteT (k0 _ sH ?_)
      rw [er]
      exact mkW_out hk _
end
/-! ### a wrap is not None -/
def NW (K : PySem.W.Frag) : Addr → Hp → Prop := fun a H => ∃ x, WrapAt K H a x
theorem NW.mon {K : PySem.W.Frag} : ∀ a H H', Ext H H' → NW K a H → NW K a H' := fun a H H' e ⟨x, h⟩ => ⟨x, h.same e⟩
section
variable {P : Program} {w : World} {K : PySem.W.Frag} {mg : Str → Option Value} {base : Heap}
theorem ok_Wrap_eqN (T : Tx w K mg) : PromM P w K mg base CX0 1 "Wrap" "__eq__" ["self", "other"] (spEqN (NW K)) := by
  refine PromM.of T.cl_Wrap T.me_Wrap___eq__ T.dm_Wrap___eq__ sc_Wrap___eq__ (fun vs H Q E h => ?_) (fun _ _ _ _ _ _ us hl => match us, hl with | [_, _], _ => rfl) (fun f cdv A outer s H vs Q E hr h => ?_)
  · obtain ⟨a, rfl, _⟩ := h
    rfl
  · obtain ⟨a, rfl, ⟨x, dx, p, h1, h2⟩, k⟩ := h
    refine ⟨_, (pss_one (ps_ret (pe_and (pe_callB call_isi (by rfl) T.b_isinstance (by decide +kernel) (pa_cons (pv 1) (pa_cons (pe_glob (v := .ref _) (by rfl) T.k_Wrap rfl) pa_nil))) (pe_and (pe_cmpR op_eq (pe_fld (pv 0) rfl) (pe_fld (pv 1) rfl) (nomark _)) (pe_one (pe_cmpR (op_eqD hr.units) (pe_fld (pv 0) rfl) (pe_fld (pv 1) rfl) (nomark _))))))), ?_⟩
    refine ⟨_, rfl, _, _, _, _, false, rfl, .own _, .base .non, T.kt.bt "NoneType" (by decide) "Wrap" (by decide), false, rfl, iteF ?_⟩
    exact k _ Ext.rfl'
end
/-! ### the stack that a text tells -/
def rdS (t : Str) : Option (Int × List Wr) := match Txt.split t "\n" with
  | [] => none
  | r0 :: rows =>
    let pt := Txt.partition r0 " "
    if pt.1 = "base" ∧ 2 ≤ numV pt.2.2 ∧ numV pt.2.2 ≤ 256 ∧ rows.length ≤ 6 then
      match rows.mapM rdW with
      | some ws => if fineL ws ≤ 120 then some (numV pt.2.2, ws) else none
      | none => none
    else none
/-- what is read of each row -/
inductive RdsAt (K : PySem.W.Frag) (H : Hp) : List V → List (Option Wr) → Prop where
  | nil : RdsAt K H [] []
  | non {xs : List V} {ws : List (Option Wr)} (r : RdsAt K H xs ws) : RdsAt K H (.non :: xs) (none :: ws)
  | ref {a : Addr} {x : Wr} {xs : List V} {ws : List (Option Wr)} (h : WrapAt K H a x) (r : RdsAt K H xs ws) : RdsAt K H (.ref a :: xs) (some x :: ws)
theorem RdsAt.len {K : PySem.W.Frag} {H : Hp} {xs : List V} {ws : List (Option Wr)} (h : RdsAt K H xs ws) : xs.length = ws.length := by
  induction h with
  | nil => rfl
  | non _ ih => exact congrArg (· + 1) ih
  | ref _ _ ih => exact congrArg (· + 1) ih
theorem RdsAt.same {K : PySem.W.Frag} {H H' : Hp} {xs : List V} {ws : List (Option Wr)} (h : RdsAt K H xs ws) (s : Same H H') : RdsAt K H' xs ws := by
  induction h with
  | nil => exact .nil
  | non _ ih => exact .non ih
  | ref h _ ih => exact .ref (h.same s) ih
theorem RdsAt.snocN {K : PySem.W.Frag} {H : Hp} {xs : List V} {ws : List (Option Wr)} (h : RdsAt K H xs ws) : RdsAt K H (xs ++ [.non]) (ws ++ [none]) := by
  induction h with
  | nil => exact .non .nil
  | non _ ih => exact .non ih
  | ref h _ ih => exact .ref h ih
theorem RdsAt.snocR {K : PySem.W.Frag} {H : Hp} {xs : List V} {ws : List (Option Wr)} {a : Addr} {x : Wr} (h : RdsAt K H xs ws) (hx : WrapAt K H a x) : RdsAt K H (xs ++ [.ref a]) (ws ++ [some x]) := by
  induction h with
  | nil => exact .ref hx .nil
  | non _ ih => exact .non ih
  | ref h _ ih => exact .ref h ih
theorem RdsAt.upd {K : PySem.W.Frag} {H : Hp} {D : Addr} {zs : List V} {o : HO} (g : H D = some (.lst zs)) {xs : List V} {ws : List (Option Wr)} (h : RdsAt K H xs ws) : RdsAt K (L2.upd H D o) xs ws := by
  induction h with
  | nil => exact .nil
  | non _ ih => exact .non ih
  | ref h _ ih =>
    obtain ⟨dx, p, h1, h2⟩ := h
    refine .ref ⟨dx, p, ?_, ?_⟩ ih
    · rw [upd_ne (fun e => by rw [e, g] at h1; cases h1)]
      exact h1
    · rw [upd_ne (fun e => by rw [e, g] at h2; cases h2)]
      exact h2
theorem RdsAt.each {K : PySem.W.Frag} {H : Hp} {xs : List V} {ws : List (Option Wr)} (h : RdsAt K H xs ws) : ∀ z ∈ xs, z = .non ∨ ∃ a dx fs, z = .ref a ∧ H a = some (.ins (He.ga K "Wrap") dx fs) ∧ NW K a H := by
  induction h with
  | nil => exact fun z h => by cases h
  | non _ ih =>
    intro z hz
    rcases List.mem_cons.mp hz with rfl | hz
    · exact .inl rfl
    · exact ih z hz
  | ref h _ ih =>
    intro z hz
    rcases List.mem_cons.mp hz with rfl | hz
    · have h0 := h
      obtain ⟨dx, p, h1, h2⟩ := h
      exact .inr ⟨_, dx, _, rfl, h1, _, h0⟩
    · exact ih z hz
theorem RdsAt.all {K : PySem.W.Frag} {H : Hp} : ∀ {xs : List V} {ts : List Str}, RdsAt K H xs (ts.map rdW) → xs.any isNon = false → ∃ ws, ts.mapM rdW = some ws ∧ WrapsAt K H xs ws
  | [], [], _, _ => ⟨[], rfl, .nil⟩
  | _ :: _, [], h, _ => by cases h
  | [], _ :: _, h, _ => by cases h
  | x :: xs, t :: ts, h, e => by
    rw [List.any_cons, Bool.or_eq_false_iff] at e
    rw [List.map_cons] at h
    generalize ew : rdW t = o at h
    cases h with
    | non r => cases e.1
    | ref hx r =>
      obtain ⟨ws, e1, e2⟩ := RdsAt.all r e.2
      refine ⟨_ :: ws, ?_, .cons hx e2⟩
      rw [List.mapM_cons, ew, e1]
      rfl
theorem RdsAt.some_none {K : PySem.W.Frag} {H : Hp} : ∀ {xs : List V} {ts : List Str}, RdsAt K H xs (ts.map rdW) → xs.any isNon = true → ts.mapM rdW = none
  | [], _, _, e => by cases e
  | _ :: _, [], h, _ => by cases h
  | x :: xs, t :: ts, h, e => by
    rw [List.any_cons, Bool.or_eq_true] at e
    rw [List.map_cons] at h
    generalize ew : rdW t = o at h
    cases h with
    | non r =>
      rw [List.mapM_cons, ew]
      rfl
    | ref hx r =>
      rcases e with e | e
      · cases e
      rw [List.mapM_cons, ew, RdsAt.some_none r e]
      rfl
theorem rd_ok {t : Str} {a : Wr} (h : rdW t = some a) : a.ok := by
  unfold rdW at h
  split at h
  · exact (mkW_spec h).2.2
  · cases h
theorem rds_ok : ∀ {ts : List Str} {ws : List Wr}, ts.mapM rdW = some ws → (∀ a ∈ ws, a.ok) ∧ ws.length = ts.length
  | [], ws, h => by
    cases h
    exact ⟨fun _ h => (by cases h), rfl⟩
  | t :: ts, ws, h => by
    rw [List.mapM_cons] at h
    cases e : rdW t with
    | none =>
      rw [e] at h
      cases h
    | some a =>
      cases e2 : ts.mapM rdW with
      | none =>
        rw [e, e2] at h
        cases h
      | some us =>
        rw [e, e2] at h
        cases h
        obtain ⟨h1, h2⟩ := rds_ok e2
        refine ⟨fun b hb => ?_, congrArg (· + 1) h2⟩
        rcases List.mem_cons.mp hb with rfl | hb
        · exact rd_ok e
        · exact h1 b hb
theorem part_len3 (x y : Str) : (Txt.partition x y).2.2.length ≤ x.length := by
  rcases partition_whole x y with ⟨e, _⟩ | ⟨i, e, _⟩
  · rw [e]
    exact Nat.zero_le _
  · rw [TL.len_tl (Txt.partition x y).2.2, e]
    dsimp only
    rw [TL.tl_strSub_end, List.length_drop, TL.len_tl x]
    exact Nat.sub_le _ _
def spStackIn (K : PySem.W.Frag) : Sp := fun vs H Q _ => ∃ t : Str, vs = [.str t] ∧ t.length ≤ 1000 ∧ (∀ H', Same H H' → rdS t = none → Q .non H') ∧ ∀ b ws q H', rdS t = some (b, ws) → StkOk b ws → H q = none → Same H H' → StkAt K H' q b ws → Q (.ref q) H'
section
variable {P : Program} {w : World} {K : PySem.W.Frag} {mg : Str → Option Value} {base : Heap}
theorem ok_stack_in (T : Tx w K mg) : Prom P w K mg base CX0 8 "stack_in" s_stack_in ["text"] (spStackIn K) := by
  refine Prom.of T.d_stack_in sc_stack_in (fun vs H Q E h => ?_) (fun _ _ _ _ _ _ us hl => match us, hl with | [_], _ => rfl) (fun f cdv A outer s H vs Q E hr h => ?_)
  · obtain ⟨z, rfl, _⟩ := h
    rfl
  · obtain ⟨z, rfl, hz, k0, k⟩ := h
    refine ⟨_, (pss_cons (ps_set (i := 1) sc_stack_in.nd rfl (Or.inl rfl) (pe_split (pv 0) pe_str))
      (pss_cons (ps_asg (pe_partition (pe_ix ix_list (pv 1) pe_int (fun _ _ => rfl)) pe_str) (pg_tup rfl (pgs_cons (pg_name (i := 2) sc_stack_in.nd rfl (Or.inl rfl)) (pgs_cons (pg_name (i := 3) sc_stack_in.nd rfl (Or.inl rfl)) (pgs_cons (pg_name (i := 4) sc_stack_in.nd rfl (Or.inl rfl)) pgs_nil)))))
      (pss_cons (ps_par (i := 5) (j := 6) (by rfl) sc_stack_in.nd rfl rfl (by decide) rfl rfl (pa_cons (pe_callP (ok_amount_of T) (hr.mono (by decide)) (by rfl) pass0 (pa_cons (pv 4) pa_nil)) (pa_cons (pe_lc (own := [("row", 7)]) (g := (gName 7)) (tt := tYes) (by rfl) sc_stack_in.nd (pi_list (pe_slice sl_list (pv 1) (po_some pe_int) po_none)) (blkOk_by (own := [("row", 7)]) (N := ["text", "rows", "word", "gap", "rest", "base", "wraps", "row"]) (sc := defScope s_stack_in) (by decide +kernel)) (fun _ _ _ _ _ => (pg_name (i := 7) sc_stack_in.nd rfl (Or.inl rfl))) (fun _ _ _ _ _ => pts_nil) (fun _ _ _ _ _ => (pe_callP (ok_wrap_in T) (hr.mono (by decide)) (by rfl) pass0 (pa_cons (pv 7) pa_nil)))) pa_nil)) (by rfl))
      (pss_cons (ps_if (PW.pt (pw_or (pt_cmpR op_ne (pv 2) pe_str (nomark _)) (pw_or (pt_not (pt_val (pe_callP (ok_is_between T) (hr.mono (by decide)) (by rfl) pass0 (pa_cons (pv 5) (pa_cons pe_int (pa_cons pe_int pa_nil)))))) (pw_or1 (pt_cmp (pc_gt (pe_callB call_len_seq (by rfl) T.b_len (by decide +kernel) (pa_cons (pv 6) pa_nil)) (pe_gint T.c_MOST_WRAPS))))))) (pss_one (ps_ret pe_non)) pss_nil)
      (pss_cons (ps_if (PW.pt (pw_or (pt_cmpR (op_inN (ok_Wrap_eqN T) NW.mon (hr.mono (by decide)) pass0) pe_non (pv 6) (by rfl)) (pw_or1 (pt_cmp (pc_gt (pe_callP (ok_fineness_of T) (hr.mono (by decide)) (by rfl) pass0 (pa_cons (pv 6) pa_nil)) (pe_gint T.c_MOST_FINENESS)))))) (pss_one (ps_ret pe_non)) pss_nil)
      (pss_one (ps_ret (pe_newS (ok_Stack T) (hr.mono (by decide)) (by rfl) pass0 (pa_cons (pv 5) (StX.pa_star (pv 6) pa_nil)))))))))), ?_⟩
    obtain ⟨r0, rs, es1⟩ : ∃ r0 rs, Txt.split z "\n" = r0 :: rs := by
      match e : Txt.split z "\n" with
      | k :: ws => exact ⟨k, ws, rfl⟩
      | [] =>
        have := split_pos z "\n"
        rw [e] at this
        simp at this
    have short : ∀ y ∈ r0 :: rs, y.length ≤ 1000 := fun y hy => Nat.le_trans (part_short (x := z) (y := "\n") (by rw [es1]; exact hy)) hz
    have hrs : rs.length ≤ 1002 := by
      have := split_le z "\n"
      rw [es1, List.length_cons] at this
      omega
    refine ⟨_, rfl, ⟨_, rfl⟩, _, _, rfl, rfl, by decide +kernel, Nat.le_trans (Nat.add_le_add_right hz 2) (by decide), fun l hl => ?_⟩
    rw [es1]
    have s1 : Same H (upd H l (.lst ((r0 :: rs).map V.str))) := up hl
    refine ⟨_, rfl, l, _, _, _, rfl, rfl, SqL.of upd_same, at_of (j := 0) rfl rfl, ⟨_, rfl⟩, _, _, rfl, rfl, by decide +kernel, Nat.le_trans (short r0 (.head _)) (by decide), fun p hp => ?_⟩
    obtain ⟨pt, ept⟩ : ∃ pt, pt = Txt.partition r0 " " := ⟨_, rfl⟩
    refine ⟨p, _, rfl, SqT.of upd_same, rfl, ?_⟩
    refine ⟨_, _, rfl, _, _, rfl, _, _, rfl, rfl, ?_⟩
    have pl : pt.2.2.length ≤ 2000 := by
      rw [ept]
      exact Nat.le_trans (part_len3 r0 " ") (Nat.le_trans (short r0 (.head _)) (by decide))
    refine st_eq [some (.str z), some (.ref l), some (.str pt.1), some (.str pt.2.1), some (.str pt.2.2), none, none, none] (by rw [ept]; rfl) ?_
    have s2 := fun (o : HO) => up (o := o) hp
    refine ⟨_, rfl, _, rfl, pl, ?_⟩
    refine ⟨_, rfl, _, rfl, l, _, rfl, SqL.of (s2 _ _ _ upd_same), fun q hq => ?_⟩
    have ecut : cutV ((r0 :: rs).map V.str) (some 1) none = rs.map V.str := by
      have e : HT.sIx ((r0 :: rs).map V.str).length 0 (some 1) = min 1 ((r0 :: rs).map V.str).length := HT.sIx_nat _ 0 1
      unfold cutV
      rw [e, HT.sIx_none, List.length_map, List.length_cons, Nat.min_eq_left (by omega)]
      show (rs.map V.str).take (rs.length + 1 - 1) = rs.map V.str
      rw [Nat.add_sub_cancel, List.take_of_length_le (by rw [List.length_map]; omega)]
    rw [ecut]
    have s3 := up (o := .lst (rs.map V.str)) hq
    refine ⟨q, rfl, ⟨_, SqL.of upd_same⟩, fun D hD => ?_⟩
    have sD := up (o := .lst []) hD
    refine lc_list (K := K) (a := q) (xs := rs.map V.str) (Pv := fun j H' => Same H H' ∧ H' q = some (.lst (rs.map V.str)) ∧ ∃ zs, H' D = some (.lst zs) ∧ RdsAt K H' zs ((rs.take j).map rdW)) ⟨fun a o e => sD _ _ (s3 _ _ (s2 _ _ _ (s1 _ _ e))), sD _ _ upd_same, [], upd_same, .nil⟩ (fun j H' _ h => SqL.of h.2.1) ?_ ?_
    · rintro j x H1 hj ⟨hs, gq, zs, gD, hr⟩
      obtain ⟨y, hy, rfl⟩ : ∃ y, rs[j]? = some y ∧ x = V.str y := by
        rw [List.getElem?_map] at hj
        cases e : rs[j]? with
        | none =>
          rw [e] at hj
          cases hj
        | some n =>
          rw [e] at hj
          exact ⟨n, rfl, (Option.some.inj hj).symm⟩
      have hjl : j < rs.length := by
        rcases List.getElem?_eq_some_iff.mp hy with ⟨z, _⟩
        exact z
      have zl : zs.length < sizeLine := by
        rw [hr.len, List.length_map, List.length_take, sizeLine_eq]
        omega
      have et : (rs.take (j + 1)).map rdW = (rs.take j).map rdW ++ [rdW y] := by
        rw [List.take_succ, hy, List.map_append]
        rfl
      have nD : ∀ {a : Addr} {o : HO}, H a = some o → a ≠ D := fun e => ne_of_none (s3 _ _ (s2 _ _ _ (s1 _ _ e))) hD
      have nq : q ≠ D := ne_of_none upd_same hD
      refine ⟨rfl, _, rfl, y, rfl, short y (.tail _ (List.mem_of_getElem? hy)), fun H2 s4 en => ?_, fun a q2 H2 ea n2 s4 wa => ?_⟩
      · refine ⟨zs, s4 _ _ gD, zl, fun b o e => ?_, ?_, _, upd_same, ?_⟩
        · rw [upd_ne (nD e)]
          exact s4 _ _ (hs _ _ e)
        · rw [upd_ne nq]
          exact s4 _ _ gq
        · rw [et, en]
          exact RdsAt.upd (s4 _ _ gD) (hr.same s4).snocN
      · refine ⟨zs, s4 _ _ gD, zl, fun b o e => ?_, ?_, _, upd_same, ?_⟩
        · rw [upd_ne (nD e)]
          exact s4 _ _ (hs _ _ e)
        · rw [upd_ne nq]
          exact s4 _ _ gq
        · rw [et, ea]
          exact RdsAt.upd (s4 _ _ gD) ((hr.same s4).snocR wa)
    · rintro H1 ⟨hs, gq, zs, gD, hr⟩
      rw [List.length_map, List.take_length] at hr
      have er : rdS z = if pt.1 = "base" ∧ 2 ≤ numV pt.2.2 ∧ numV pt.2.2 ≤ 256 ∧ rs.length ≤ 6 then (match rs.mapM rdW with | some ws => if fineL ws ≤ 120 then some (numV pt.2.2, ws) else none | none => none) else none := by
        unfold rdS
        rw [es1, ept]
      refine ⟨_, _, rfl, ?_⟩
      refine st_eq [some (.str z), some (.ref l), some (.str pt.1), some (.str pt.2.1), some (.str pt.2.2), some (.int (numV pt.2.2)), some (.ref D), none] rfl ?_
      refine ⟨_, rfl, rfl, _, rfl, ifn (fun c => ?_) (fun c => ?_)⟩
      · refine k0 _ hs ?_
        rw [er, if_neg fun h => c (by rw [h.1])]
      have ew : pt.1 = "base" := by
        have c : V.str pt.1 = V.str "base" := c
        injection c
      refine ⟨_, rfl, _, _, _, rfl, _, rfl, ?_⟩
      refine ifn (fun c2 => ?_) (fun c2 => ?_)
      · refine k0 _ hs ?_
        rw [er, if_neg fun h => c2 ⟨h.2.1, h.2.2.1⟩]
      have zl : zs.length = rs.length := by rw [hr.len, List.length_map]
      refine ⟨_, rfl, D, _, rfl, .inl (SqL.of gD), _, _, rfl, rfl, _, rfl, ifd (fun c3 => ?_) (fun c3 => ?_)⟩
      · have c3 : (zs.length : Int) > 6 := c3
        refine k0 _ hs ?_
        rw [er, if_neg fun h => absurd h.2.2.2 (by omega)]
      have c3 : ¬ (zs.length : Int) > 6 := c3
      rw [if_pos ⟨ew, c2.1, c2.2, by omega⟩] at er
      refine ⟨_, rfl, D, zs, rfl, rfl, SqL.of gD, hr.each, fun H2 e2 => ?_⟩
      have s2H : Same H H2 := fun a o e => e2 _ _ (hs _ _ e)
      refine ⟨_, rfl, ?_⟩
      cases en : zs.any isNon with
      | true =>
        refine iteT (k0 _ s2H ?_)
        rw [er, RdsAt.some_none hr en]
      | false =>
        obtain ⟨ws, ews, hw⟩ := RdsAt.all hr en
        obtain ⟨wok, wl⟩ := rds_ok ews
        rw [ews] at er
        refine iteF ?_
        refine ⟨_, rfl, D, zs, ws, rfl, .inl (SqL.of (e2 _ _ gD)), hw.same e2, wok, fun H3 s3 => ?_⟩
        have s3H : Same H H3 := fun a o e => s3 _ _ (s2H _ _ e)
        refine ⟨_, _, rfl, rfl, _, rfl, ifd (fun c4 => ?_) (fun c4 => ?_)⟩
        · have c4 : fineL ws > 120 := c4
          refine k0 _ s3H ?_
          rw [er]
          exact if_neg (by omega)
        · have c4 : ¬ fineL ws > 120 := c4
          have er : rdS z = some (numV pt.2.2, ws) := er.trans (if_pos (by omega))
          have so : StkOk (numV pt.2.2) ws := ⟨c2.1, c2.2, wok, by omega, by omega⟩
          refine ⟨_, rfl, _, rfl, D, zs, rfl, .inr (SqL.of (s3 _ _ (e2 _ _ gD))), _, zs, ws, ?_, so, (hw.same e2).same s3, fun q3 H4 n4 s4 h4 => ?_⟩
          · show V.int (numV pt.2.2) :: (zs ++ []) = _
            rw [List.append_nil]
          · refine k _ ws q3 H4 er so ?_ (fun x o e => s4 _ _ (s3H _ _ e)) h4
            cases e3 : H q3 with
            | none => rfl
            | some o =>
              rw [s3H _ _ e3] at n4
              cases n4
end
/-! ### texts that the law makes: short, of plain signs -/
def Good (n : Nat) (s : Str) : Prop := s.length ≤ n ∧ PyData.strOk s = true
theorem ok_mem {s : Str} : PyData.strOk s = true ↔ ∀ c ∈ TL.tl s, c < 0x110000 := by
  show s.cps.all (· < 0x110000) = true ↔ _
  rw [← Array.all_toList, List.all_eq_true]
  exact ⟨fun h c hc => of_decide_eq_true (h c hc), fun h c hc => decide_eq_true (h c hc)⟩
theorem joinL_mem2 {S : List Nat} {c : Nat} : ∀ {ps : List (List Nat)}, c ∈ TL.joinL S ps → c ∈ S ∨ ∃ p ∈ ps, c ∈ p
  | [], h => by cases h
  | [p], h => .inr ⟨p, .head _, h⟩
  | p :: q :: r, h => by
    have h : c ∈ p ++ (S ++ TL.joinL S (q :: r)) := h
    rcases List.mem_append.mp h with h | h
    · exact .inr ⟨p, .head _, h⟩
    rcases List.mem_append.mp h with h | h
    · exact .inl h
    rcases joinL_mem2 h with h | ⟨x, hx, h⟩
    · exact .inl h
    · exact .inr ⟨x, .tail _ hx, h⟩
theorem good_app {m n : Nat} {x y : Str} (h : Good m x) (g : Good n y) : Good (m + n) (x ++ y) := by
  refine ⟨by rw [PySem.Str.length_append]; exact Nat.add_le_add h.1 g.1, ok_mem.mpr fun c hc => ?_⟩
  rw [TL.tl_append] at hc
  rcases List.mem_append.mp hc with hc | hc
  · exact ok_mem.mp h.2 c hc
  · exact ok_mem.mp g.2 c hc
theorem sum_le_of {n : Nat} : ∀ {ps : List Str}, (∀ p ∈ ps, Good n p) → (ps.map (·.length)).sum ≤ n * ps.length
  | [], _ => Nat.zero_le _
  | p :: ps, h => by
    have h1 := (h p (.head _)).1
    have h2 := sum_le_of fun q hq => h q (.tail _ hq)
    simp only [List.map_cons, List.sum_cons, List.length_cons, Nat.mul_add]
    omega
theorem good_join {n : Nat} {sep : Str} (hs : Good 1 sep) {ps : List Str} (h : ∀ p ∈ ps, Good n p) : Good ((n + 1) * ps.length) (Txt.join sep ps) := by
  rw [TL.join_eq]
  refine ⟨?_, ok_mem.mpr fun c hc => ?_⟩
  · have h1 := StrLaws.join_length_le sep ps
    have h2 := sum_le_of h
    have h3 := Nat.mul_le_mul_left ps.length hs.1
    rw [Nat.add_mul]
    omega
  · rw [TL.tl_join] at hc
    rcases joinL_mem2 hc with hc | ⟨p, hp, hc⟩
    · exact ok_mem.mp hs.2 c hc
    · obtain ⟨q, hq, rfl⟩ := List.mem_map.mp hp
      exact ok_mem.mp (h q hq).2 c hc
theorem good_num {i : Int} (h0 : 0 ≤ i) (h1 : i ≤ 1000) : Good 5 (Str.ofString (toString i)) := by
  refine ⟨Nat.le_trans (toString_length_le h0 (k := 4) (by decide) (by omega)) (by decide), ok_mem.mpr fun c hc => ?_⟩
  obtain ⟨n, rfl⟩ : ∃ n : Nat, i = (n : Int) := ⟨i.toNat, by omega⟩
  rw [TL.tl_num] at hc
  have := TL.numL_digits n c hc
  omega
theorem good_mono {m n : Nat} {s : Str} (h : Good m s) (k : m ≤ n) : Good n s := ⟨Nat.le_trans h.1 k, h.2⟩
theorem good_kind (a : Wr) : Good 6 a.kind := by
  cases a with
  | plus _ => exact (show Good 6 "plus" from ⟨by decide, by decide +kernel⟩)
  | told _ => exact (show Good 6 "told" from ⟨by decide, by decide +kernel⟩)
  | whole _ => exact (show Good 6 "whole" from ⟨by decide, by decide +kernel⟩)
  | pieces _ _ => exact (show Good 6 "pieces" from ⟨by decide, by decide +kernel⟩)
  | cut _ _ => exact (show Good 6 "cut" from ⟨by decide, by decide +kernel⟩)
  | coded _ _ => exact (show Good 6 "coded" from ⟨by decide, by decide +kernel⟩)
  | filled _ => exact (show Good 6 "filled" from ⟨by decide, by decide +kernel⟩)
theorem nums_good {a : Wr} (h : a.ok) : ∀ i ∈ a.nums, 0 ≤ i ∧ i ≤ 1000 := by
  intro i hi
  cases a with
  | plus c => simp only [Wr.nums, List.mem_cons, List.not_mem_nil, or_false] at hi; subst hi; exact h
  | told c => simp only [Wr.nums, List.mem_cons, List.not_mem_nil, or_false] at hi; subst hi; exact h
  | whole c => simp only [Wr.nums, List.mem_cons, List.not_mem_nil, or_false] at hi; subst hi; exact h
  | filled c => simp only [Wr.nums, List.mem_cons, List.not_mem_nil, or_false] at hi; subst hi; simp only [Wr.ok] at h; omega
  | pieces m c => simp only [Wr.nums, List.mem_cons, List.not_mem_nil, or_false] at hi; simp only [Wr.ok] at h; omega
  | cut m c => simp only [Wr.nums, List.mem_cons, List.not_mem_nil, or_false] at hi; simp only [Wr.ok] at h; omega
  | coded m c => simp only [Wr.nums, List.mem_cons, List.not_mem_nil, or_false] at hi; simp only [Wr.ok] at h; omega
theorem nums_len2 (a : Wr) : a.nums.length ≤ 2 := by cases a <;> simp [Wr.nums]
theorem numV_thou : (List.range 1001).all (fun n => numV (Str.ofString (toString ((n : Nat) : Int))) == ((n : Nat) : Int)) = true := by decide +kernel
theorem numV_num {i : Int} (h0 : 0 ≤ i) (h1 : i ≤ 1000) : numV (Str.ofString (toString i)) = i := by
  obtain ⟨n, rfl⟩ : ∃ n : Nat, i = (n : Int) := ⟨i.toNat, by omega⟩
  exact eq_of_beq (List.all_eq_true.mp numV_thou n (List.mem_range.mpr (by omega)))
/-- the text of a wrap -/
def wTxt (a : Wr) : Str := Txt.join " " (a.kind :: a.nums.map fun i => Str.ofString (toString i))
theorem kind_free (a : Wr) : 32 ∉ TL.tl a.kind := by
  cases a with
  | plus _ => exact (show 32 ∉ TL.tl "plus" by decide +kernel)
  | told _ => exact (show 32 ∉ TL.tl "told" by decide +kernel)
  | whole _ => exact (show 32 ∉ TL.tl "whole" by decide +kernel)
  | pieces _ _ => exact (show 32 ∉ TL.tl "pieces" by decide +kernel)
  | cut _ _ => exact (show 32 ∉ TL.tl "cut" by decide +kernel)
  | coded _ _ => exact (show 32 ∉ TL.tl "coded" by decide +kernel)
  | filled _ => exact (show 32 ∉ TL.tl "filled" by decide +kernel)
theorem wTxt_reads {a : Wr} (h : a.ok) : rdW (wTxt a) = some a := by
  unfold rdW wTxt
  rw [TL.split_join (y := " ") (s := 32) (S := []) rfl (by decide +kernel) (by simp) (fun p hp => by
    rcases List.mem_cons.mp hp with rfl | hp
    · exact kind_free a
    · obtain ⟨i, hi, rfl⟩ := List.mem_map.mp hp
      have hb := nums_good h i hi
      obtain ⟨n, rfl⟩ : ∃ n : Nat, i = (n : Int) := ⟨i.toNat, by omega⟩
      rw [TL.tl_num]
      exact TL.numL_free (.inl (by decide)))]
  show mkW a.kind ((a.nums.map fun i => Str.ofString (toString i)).map numV) = some a
  rw [List.map_map]
  have e : a.nums.map (numV ∘ fun i => Str.ofString (toString i)) = a.nums := by
    conv => rhs; rw [← List.map_id a.nums]
    refine List.map_congr_left fun i hi => ?_
    have hb := nums_good h i hi
    exact numV_num hb.1 hb.2
  rw [e]
  exact mkW_ok h
/-! ### texts of stacks that read back -/
theorem text_wTxt (a : Wr) : a.text = wTxt a := rfl
theorem wTxt_good {a : Wr} (h : a.ok) : Good 21 (wTxt a) := by
  have g : ∀ x ∈ a.kind :: a.nums.map fun i => Str.ofString (toString i), Good 6 x := by
    intro x hx
    rcases List.mem_cons.mp hx with rfl | hx
    · exact good_kind a
    · obtain ⟨i, hi, rfl⟩ := List.mem_map.mp hx
      have hb := nums_good h i hi
      exact good_mono (good_num hb.1 hb.2) (by decide)
  have gj := good_join (sep := " ") ⟨by decide, by decide +kernel⟩ g
  have n2 := nums_len2 a
  have gl : (a.kind :: a.nums.map fun i => Str.ofString (toString i)).length ≤ 3 := by
    rw [List.length_cons, List.length_map]
    omega
  exact good_mono gj (by omega)
theorem num_free {i : Int} (h : 0 ≤ i) {s : Nat} (hs : s < 48 ∨ 57 < s) : s ∉ TL.tl (Str.ofString (toString i)) := by
  obtain ⟨n, rfl⟩ : ∃ n : Nat, i = (n : Int) := ⟨i.toNat, by omega⟩
  rw [TL.tl_num]
  exact TL.numL_free hs
theorem kind_free10 (a : Wr) : 10 ∉ TL.tl a.kind := by
  cases a with
  | plus _ => exact (show 10 ∉ TL.tl "plus" by decide +kernel)
  | told _ => exact (show 10 ∉ TL.tl "told" by decide +kernel)
  | whole _ => exact (show 10 ∉ TL.tl "whole" by decide +kernel)
  | pieces _ _ => exact (show 10 ∉ TL.tl "pieces" by decide +kernel)
  | cut _ _ => exact (show 10 ∉ TL.tl "cut" by decide +kernel)
  | coded _ _ => exact (show 10 ∉ TL.tl "coded" by decide +kernel)
  | filled _ => exact (show 10 ∉ TL.tl "filled" by decide +kernel)
theorem wTxt_free {a : Wr} (h : a.ok) : 10 ∉ TL.tl (wTxt a) := fun hc => by
  unfold wTxt at hc
  rw [TL.join_eq, TL.tl_join] at hc
  rcases joinL_mem2 hc with hc | ⟨p, hp, hc⟩
  · exact absurd hc (by decide +kernel)
  · obtain ⟨q, hq, rfl⟩ := List.mem_map.mp hp
    rcases List.mem_cons.mp hq with rfl | hq
    · exact kind_free10 a hc
    · obtain ⟨i, hi, rfl⟩ := List.mem_map.mp hq
      exact num_free (nums_good h i hi).1 (.inl (by decide)) hc
theorem base_eq (b : Int) : baseText b = ("base" : Str) ++ " " ++ Str.ofString (toString b) := by
  unfold baseText
  rw [PySem.Str.empty_append]
  have e : ("base " : Str) = ("base" : Str) ++ " " := by decide +kernel
  rw [e]
theorem base_free {b : Int} (h : 0 ≤ b) : 10 ∉ TL.tl (baseText b) := fun hc => by
  rw [base_eq, TL.tl_append] at hc
  rcases List.mem_append.mp hc with hc | hc
  · exact absurd hc (by decide +kernel)
  · exact num_free h (.inl (by decide)) hc
theorem base_good {b : Int} (h0 : 0 ≤ b) (h1 : b ≤ 1000) : Good 10 (baseText b) := by
  rw [base_eq]
  exact good_app (m := 5) (n := 5) (good_app (m := 4) (n := 1) ⟨by decide, by decide +kernel⟩ ⟨by decide, by decide +kernel⟩) (good_num h0 h1)
theorem stk_good {b : Int} {ws : List Wr} (b0 : 0 ≤ b) (b1 : b ≤ 1000) (h : ∀ a ∈ ws, a.ok) : Good (22 * (ws.length + 1)) (stkText b ws) := by
  have g : ∀ x ∈ baseText b :: ws.map Wr.text, Good 21 x := by
    intro x hx
    rcases List.mem_cons.mp hx with rfl | hx
    · exact good_mono (base_good b0 b1) (by decide)
    · obtain ⟨a, ha, rfl⟩ := List.mem_map.mp hx
      exact wTxt_good (h a ha)
  have gj := good_join (sep := "\n") ⟨by decide, by decide +kernel⟩ g
  rw [List.length_cons, List.length_map] at gj
  exact gj
theorem stk_split {b : Int} {ws : List Wr} (b0 : 0 ≤ b) (h : ∀ a ∈ ws, a.ok) : Txt.split (stkText b ws) "\n" = baseText b :: ws.map Wr.text := by
  unfold stkText
  exact TL.split_join (y := "\n") (s := 10) (S := []) rfl (by decide +kernel) (by simp) (fun p hp => by
    rcases List.mem_cons.mp hp with rfl | hp
    · exact base_free b0
    · obtain ⟨a, ha, rfl⟩ := List.mem_map.mp hp
      exact wTxt_free (h a ha))
theorem rds_texts : ∀ {ws : List Wr}, (∀ a ∈ ws, a.ok) → (ws.map Wr.text).mapM rdW = some ws
  | [], _ => rfl
  | a :: ws, h => by
    rw [List.map_cons, List.mapM_cons, text_wTxt, wTxt_reads (h a (.head _)), rds_texts fun x hx => h x (.tail _ hx)]
    rfl
theorem stk_reads {b : Int} {ws : List Wr} (so : StkOk b ws) : rdS (stkText b ws) = some (b, ws) := by
  have b0 := so.b0
  have b1 := so.b1
  unfold rdS
  rw [stk_split (by omega) so.ok]
  have ep : Txt.partition (baseText b) " " = ((("base" : Str), ((" " : Str), Str.ofString (toString b))) : Str × Str × Str) := by
    rw [base_eq]
    exact TL.partition_app (y := " ") (s := 32) (S := []) rfl (by decide +kernel)
  simp only [ep, numV_num (show 0 ≤ b by omega) (show b ≤ 1000 by omega), rds_texts so.ok, List.length_map]
  rw [if_pos ⟨trivial, b0, b1, so.len⟩, if_pos so.fine]
/-! ### things of any kind: what isinstance says of them -/
def isNum : V → Bool
  | .int _ => true
  | .bl _ => true
  | _ => false
def isBl : V → Bool
  | .bl _ => true
  | _ => false
def isInt : V → Bool
  | .int _ => true
  | _ => false
def inRV (lo hi : Int) : V → Bool
  | .int i => decide (lo ≤ i ∧ i ≤ hi)
  | _ => false
theorem inRV_int {lo hi : Int} {v : V} (h : inRV lo hi v = true) : ∃ i, v = .int i ∧ lo ≤ i ∧ i ≤ hi := by
  cases v with
  | int i => exact ⟨i, rfl, of_decide_eq_true h⟩
  | _ => exact Bool.noConfusion h
/-- it is of none of these built-in types and of none of the own classes but its own -/
structure Thg (K : PySem.W.Frag) (H : Hp) (v : V) : Prop where
  ex : ∃ t, TyX K H v t ∧ PySem.W.kitOne K t (.type "int") = some (isNum v) ∧ PySem.W.kitOne K t (.type "bool") = some (isBl v)
/-- no tuple -/
def NoTup (K : PySem.W.Frag) (H : Hp) (v : V) : Prop := ∃ t, TyX K H v t ∧ PySem.W.kitOne K t (.type "tuple") = some false
/-- no instance of the class C -/
def NoC (K : PySem.W.Frag) (H : Hp) (C : Str) (v : V) : Prop := ∃ t, TyX K H v t ∧ PySem.W.kitOne K t (.ref (He.ga K C)) = some false
/-- all that is not of an own class -/
structure Bas (K : PySem.W.Frag) (H : Hp) (v : V) (T : String) : Prop where
  ty : TyX K H v (.type T)
  mem : T ∈ btys
  i : PySem.W.kitOne K (.type T) (.type "int") = some (isNum v)
  b : PySem.W.kitOne K (.type T) (.type "bool") = some (isBl v)
  t : PySem.W.kitOne K (.type T) (.type "tuple") = some (decide (T = "tuple"))
section
variable {K : PySem.W.Frag} {H : Hp}
theorem Bas.thg {v : V} {T : String} (h : Bas K H v T) : Thg K H v := ⟨_, h.ty, h.i, h.b⟩
theorem Bas.noTup {v : V} {T : String} (h : Bas K H v T) (n : T ≠ "tuple") : NoTup K H v := ⟨_, h.ty, by rw [h.t, decide_eq_false n]⟩
theorem Bas.noC {v : V} {T : String} {Cs : List Str} {C : Str} (h : Bas K H v T) (k : KitTab K Cs) (hC : C ∈ Cs) : NoC K H C v := ⟨_, h.ty, k.bt T h.mem C hC⟩
theorem Bas.int (i : Int) : Bas K H (.int i) "int" := ⟨.base (.int i), by simp [btys], kit_ty (r := true) (by decide +kernel), kit_ty (r := false) (by decide +kernel), kit_ty (r := false) (by decide +kernel)⟩
theorem Bas.bl (b : Bool) : Bas K H (.bl b) "bool" := ⟨.base (.bl b), by simp [btys], kit_ty (r := true) (by decide +kernel), kit_ty (r := true) (by decide +kernel), kit_ty (r := false) (by decide +kernel)⟩
theorem Bas.non : Bas K H .non "NoneType" := ⟨.base .non, by simp [btys], kit_ty (r := false) (by decide +kernel), kit_ty (r := false) (by decide +kernel), kit_ty (r := false) (by decide +kernel)⟩
theorem Bas.str (s : Str) : Bas K H (.str s) "str" := ⟨.base (.str s), by simp [btys], kit_ty (r := false) (by decide +kernel), kit_ty (r := false) (by decide +kernel), kit_ty (r := false) (by decide +kernel)⟩
theorem Bas.lst {a : Addr} {xs : List V} (h : H a = some (.lst xs)) : Bas K H (.ref a) "list" := ⟨.base (.lst h), by simp [btys], kit_ty (r := false) (by decide +kernel), kit_ty (r := false) (by decide +kernel), kit_ty (r := false) (by decide +kernel)⟩
theorem Bas.tup {a : Addr} {xs : List V} (h : H a = some (.tup xs)) : Bas K H (.ref a) "tuple" := ⟨.base (.tup h), by simp [btys], kit_ty (r := false) (by decide +kernel), kit_ty (r := false) (by decide +kernel), kit_ty (r := true) (by decide +kernel)⟩
theorem Bas.dct {a : Addr} {kvs : List (Key × V)} (h : H a = some (.dK kvs)) : Bas K H (.ref a) "dict" := ⟨.base (.dK h), by simp [btys], kit_ty (r := false) (by decide +kernel), kit_ty (r := false) (by decide +kernel), kit_ty (r := false) (by decide +kernel)⟩
/-- an instance of an own class -/
theorem Thg.ins {Cs : List Str} {C : Str} {a dx : Addr} {fs : List (Str × V)} (i : IsiK K (He.ga K C)) (k : KitTab K Cs) (hC : C ∈ Cs) (h : H a = some (.ins (He.ga K C) dx fs)) : Thg K H (.ref a) := ⟨_, i.ty h, k.tb C hC "int" (by simp [btys]), k.tb C hC "bool" (by simp [btys])⟩
theorem noTup_ins {Cs : List Str} {C : Str} {a dx : Addr} {fs : List (Str × V)} (i : IsiK K (He.ga K C)) (k : KitTab K Cs) (hC : C ∈ Cs) (h : H a = some (.ins (He.ga K C) dx fs)) : NoTup K H (.ref a) := ⟨_, i.ty h, k.tb C hC "tuple" (by simp [btys])⟩
theorem noC_ins {Cs : List Str} {C D : Str} {a dx : Addr} {fs : List (Str × V)} (i : IsiK K (He.ga K C)) (k : KitTab K Cs) (hC : C ∈ Cs) (hD : D ∈ Cs) (n : C ≠ D) (h : H a = some (.ins (He.ga K C) dx fs)) : NoC K H D (.ref a) := ⟨_, i.ty h, by rw [k.tt C hC D hD, decide_eq_false n]⟩
end
def spIsIntT (K : PySem.W.Frag) : Sp := fun vs H Q _ => ∃ v : V, vs = [v] ∧ Thg K H v ∧ Q (.bl (isInt v)) H
def spBetweenT (K : PySem.W.Frag) : Sp := fun vs H Q _ => ∃ (v : V) (l m : Int), vs = [v, .int l, .int m] ∧ Thg K H v ∧ Q (.bl (inRV l m v)) H
/-- a check: nothing, or an error -/
def spChk (K : PySem.W.Frag) (C f : Str) (lo hi : Int) : Sp := fun vs H Q E => ∃ v : V, vs = [v] ∧ Thg K H v ∧ (inRV lo hi v = true → Q .non H) ∧ (inRV lo hi v = false → Fails K H E C f v)
theorem iteN {b : Bool} {A B : Prop} (h1 : b = false → A) (h2 : b = true → B) : if (!b) = true then A else B := by
  cases b with
  | false => exact h1 rfl
  | true => exact h2 rfl
section
variable {P : Program} {w : World} {K : PySem.W.Frag} {mg : Str → Option Value} {base : Heap}
theorem ok_is_integerX (T : Tx w K mg) : Prom P w K mg base CX0 1 "is_integer" s_is_integer ["value"] (spIsIntT K) := by
  refine Prom.of T.d_is_integer sc_is_integer (fun vs H Q E h => ?_) (fun _ _ _ _ _ _ us hl => match us, hl with | [_], _ => rfl) (fun f cdv A outer s H vs Q E hr h => ?_)
  · obtain ⟨v, rfl, _⟩ := h
    rfl
  · obtain ⟨v, rfl, ⟨t, ty, ki, _⟩, k⟩ := h
    refine ⟨_, (pss_one (ps_ret (pe_and (pe_callB call_isi (by rfl) T.b_isinstance (by decide +kernel) (pa_cons (pv 0) (pa_cons (pe_bltn (v := .ty "int") (by rfl) T.b_int (by decide +kernel) rfl) pa_nil))) (pe_and (pe_cmpR op_isnotBl (pv 0) pe_bl (nomark _)) (pe_one (pe_cmpR op_isnotBl (pv 0) pe_bl (nomark _))))))), ?_⟩
    refine ⟨_, rfl, _, _, _, _, _, rfl, .ty _, ty, ki, _, rfl, ?_⟩
    cases v with
    | int i => exact iteT ⟨_, rfl, _, rfl, true, rfl, iteT ⟨_, rfl, _, rfl, k⟩⟩
    | bl b =>
      cases b with
      | true => exact iteT ⟨_, rfl, _, rfl, false, rfl, iteF k⟩
      | false => exact iteT ⟨_, rfl, _, rfl, true, rfl, iteT ⟨_, rfl, _, rfl, k⟩⟩
    | _ => exact iteF k
theorem ok_is_betweenX (T : Tx w K mg) : Prom P w K mg base CX0 2 "is_between" s_is_between ["value", "least", "most"] (spBetweenT K) := by
  refine Prom.of T.d_is_between sc_is_between (fun vs H Q E h => ?_) (fun _ _ _ _ _ _ us hl => match us, hl with | [_, _, _], _ => rfl) (fun f cdv A outer s H vs Q E hr h => ?_)
  · obtain ⟨v, l, m, rfl, _⟩ := h
    rfl
  · obtain ⟨v, l, m, rfl, hd, k⟩ := h
    refine ⟨_, (pss_one (ps_ret (pe_and (pe_callP (ok_is_integerX T) (hr.mono (by decide)) (by rfl) pass0 (pa_cons (pv 0) pa_nil)) (pe_one (pe_chain op_le op_le (pv 1) (pv 0) (pv 2)))))), ?_⟩
    refine ⟨_, rfl, v, rfl, hd, isInt v, rfl, ?_⟩
    cases v with
    | int v =>
      refine iteT ⟨_, rfl, _, rfl, _, _, rfl, rfl, _, rfl, ifd (fun h1 => ?_) (fun h1 => ?_)⟩
      · refine ⟨_, rfl, _, _, rfl, rfl, ?_⟩
        show Q (.bl (decide (v ≤ m))) H
        have e : decide (v ≤ m) = decide (l ≤ v ∧ v ≤ m) := by simp [h1]
        rw [e]
        exact k
      · show Q (.bl false) H
        have e : false = decide (l ≤ v ∧ v ≤ m) := by simp [h1]
        rw [e]
        exact k
    | _ => exact iteF k
end
/-! ### the stack that a text tells, by the class -/
def spReadS (K : PySem.W.Frag) : Sp := fun vs H Q _ => ∃ (t : Str) (b : Int) (ws : List Wr), vs = [.str t] ∧ t.length ≤ 1000 ∧ rdS t = some (b, ws) ∧ StkOk b ws ∧ ∀ q H', H q = none → Same H H' → StkAt K H' q b ws → Q (.ref q) H'
section
variable {P : Program} {w : World} {K : PySem.W.Frag} {mg : Str → Option Value} {base : Heap}
theorem ok_Stack_read (T : Tx w K mg) : PromS P w K mg base CX0 9 "Stack" "read" "Stack.read" s_Stack_read ["text"] (spReadS K) := by
  refine PromS.of T.sm_Stack_read T.ds_Stack_read sc_Stack_read (fun vs H Q E h => ?_) (fun _ _ _ _ _ _ us hl => match us, hl with | [_], _ => rfl) (fun f cdv A outer s H vs Q E hr h => ?_)
  · obtain ⟨t, b, ws, rfl, _⟩ := h
    rfl
  · obtain ⟨t, b, ws, rfl, ht, er, so, k⟩ := h
    refine ⟨_, (pss_cons (ps_set (i := 1) sc_Stack_read.nd rfl (Or.inl rfl) (pe_ifExp (pt_val (pe_callB call_isi (by rfl) T.b_isinstance (by decide +kernel) (pa_cons (pv 0) (pa_cons (pe_bltn (v := .ty "str") (by rfl) T.b_str (by decide +kernel) rfl) pa_nil)))) (pe_callP (ok_stack_in T) (hr.mono (by decide)) (by rfl) pass0 (pa_cons (pv 0) pa_nil)) pe_non))
      (pss_cons (ps_if (pt_cmpR op_isN (pv 1) pe_non (nomark _)) (pss_one ps_never) pss_nil)
      (pss_one (ps_ret (pv 1))))), ?_⟩
    refine ⟨_, rfl, _, _, _, _, true, rfl, .ty _, .base (.str t), kit_self, true, rfl, iteT ?_⟩
    refine ⟨_, rfl, t, rfl, ht, fun H' s e => ?_, fun b' ws' q H' e so' n s st => ?_⟩
    · rw [er] at e
      cases e
    · rw [er] at e
      cases e
      exact ⟨_, rfl, rfl, _, rfl, iteF ⟨_, rfl, k q H' n s st⟩⟩
end
/-! ### the law's own stacks -/
def spStackP (K : PySem.W.Frag) : Sp := fun vs H Q _ => ∃ (l : Addr) (b : Int) (xs : List V) (ws : List Wr), vs = [.int b, .ref l] ∧ H l = some (.lst xs) ∧ PlansAt H xs ws ∧ StkOk b ws ∧ ∀ q H', H q = none → Same H H' → StkAt K H' q b ws → Q (.ref q) H'
section
variable {P : Program} {w : World} {K : PySem.W.Frag} {mg : Str → Option Value} {base : Heap}
theorem ok_L_stack (T : Tx w K mg) : Prom P w K mg base CX0 10 "_law_stack" s_L_stack ["_law_root_here", "_law_plans_here"] (spStackP K) := by
  refine Prom.of T.d_L_stack sc_L_stack (fun vs H Q E h => ?_) (fun _ _ _ _ _ _ us hl => match us, hl with | [_, _], _ => rfl) (fun f cdv A outer s H vs Q E hr h => ?_)
  · obtain ⟨l, b, xs, ws, rfl, _⟩ := h
    rfl
  · obtain ⟨l, b, xs, ws, rfl, hl, hp, so, k⟩ := h
    refine ⟨_, (pss_one (ps_ret (pe_smethP (ok_Stack_read T) (hr.mono (by decide)) pass0 (pe_glob (v := .ref _) (by rfl) T.k_Stack rfl) (pa_cons (pe_callP (ok_L_rows T) (hr.mono (by decide)) (by rfl) pass0 (pa_cons (pv 0) (pa_cons (pv 1) pa_nil))) pa_nil)))), ?_⟩
    refine ⟨rfl, _, rfl, _, rfl, l, b, xs, ws, rfl, hl, hp, so, fun H1 s1 => ?_⟩
    have hlen := so.len
    have g := stk_good (b := b) (ws := ws) (by have := so.b0; omega) (by have := so.b1; omega) so.ok
    exact ⟨_, b, ws, rfl, by have := g.1; omega, stk_reads so, so, fun q H2 hq s2 st => k q H2 (same_before s1 hq) (s1.trans s2) st⟩
end
/-! ### payload, the road's length -/
def spRLen (K : PySem.W.Frag) : Sp := fun vs H Q _ => ∃ (r : Addr) (b : Int) (ss : List Stp), vs = [.ref r] ∧ RoadAt K H r b ss ∧ Q (.int (ss.length : Nat)) H
section
variable {P : Program} {w : World} {K : PySem.W.Frag} {mg : Str → Option Value} {base : Heap}
theorem ok_payload (T : Tx w K mg) : Prom P w K mg base CX0 6 "payload" s_payload ["stack", "bound"] (spWithin K) := by
  refine Prom.of T.d_payload sc_payload (fun vs H Q E h => ?_) (fun _ _ _ _ _ _ us hl => match us, hl with | [_, _], _ => rfl) (fun f cdv A outer s H vs Q E hr h => ?_)
  · obtain ⟨q, b, m, ws, rfl, _⟩ := h
    rfl
  · obtain ⟨q, b, m, ws, rfl, hS, so, m0, m1, k⟩ := h
    refine ⟨_, (pss_cons (ps_expr (pe_callP (ok_check_stack T) (hr.mono (by decide)) (by rfl) pass0 (pa_cons (pv 0) pa_nil)))
      (pss_cons (ps_expr (pe_callP (ok_check_length T) (hr.mono (by decide)) (by rfl) pass0 (pa_cons (pv 1) pa_nil)))
      (pss_one (ps_ret (pe_callP (ok_greatest_within T) (hr.mono (by decide)) (by rfl) pass0 (pa_cons (pv 0) (pa_cons (pv 1) pa_nil))))))), ?_⟩
    refine ⟨_, rfl, q, b, ws, rfl, hS, ?_⟩
    refine ⟨_, rfl, m, rfl, m0, m1, ?_⟩
    exact ⟨_, rfl, _, rfl, q, b, m, ws, rfl, hS, so, m0, m1, k⟩
theorem ok_Road___len__ (T : Tx w K mg) : PromM P w K mg base CX0 1 "Road" "__len__" ["self"] (spRLen K) := by
  refine PromM.of T.cl_Road T.me_Road___len__ T.dm_Road___len__ sc_Road___len__ (fun vs H Q E h => ?_) (fun _ _ _ _ _ _ us hl => match us, hl with | [_], _ => rfl) (fun f cdv A outer s H vs Q E hr h => ?_)
  · obtain ⟨r, b, ss, rfl, _⟩ := h
    rfl
  · obtain ⟨r, b, ss, rfl, hR, k⟩ := h
    obtain ⟨dx, t, q, xs, h1, h2, h3, h4⟩ := hR.at_
    refine ⟨_, (pss_one (ps_ret (pe_callB call_len_seq (by rfl) T.b_len (by decide +kernel) (pa_cons (pe_fld (pv 0) rfl) pa_nil)))), ?_⟩
    refine ⟨_, rfl, r, _, dx, _, _, rfl, h1, T.cl_Road, T.na_Road_steps, rfl, t, xs, rfl, .inr (SqT.of h2), ?_⟩
    show Q (.int (xs.length : Nat)) H
    rw [h3.len]
    exact k
end
/-! ### wraps compared with anything -/
theorem wr_ext {x y : Wr} (h1 : x.kind = y.kind) (h2 : x.nums = y.nums) : x = y := by
  cases x <;> cases y <;> first | (simp only [Wr.kind] at h1; exact absurd h1 (by decide)) | (simp only [Wr.nums, List.cons.injEq, and_true] at h2; simp only [h2])
instance : DecidableEq Wr := fun x y => decidable_of_iff (x.kind = y.kind ∧ x.nums = y.nums) ⟨fun h => wr_ext h.1 h.2, fun h => by rw [h]; exact ⟨rfl, rfl⟩⟩
def EqRes (K : PySem.W.Frag) (H : Hp) (x : Wr) (v : V) (r : Bool) : Prop := (∃ b y, v = .ref b ∧ WrapAt K H b y ∧ r = decide (x = y)) ∨ (NoC K H "Wrap" v ∧ r = false)
def spEqW (K : PySem.W.Frag) : Sp := fun vs H Q _ => ∃ (a : Addr) (x : Wr) (v : V) (r : Bool), vs = [.ref a, v] ∧ WrapAt K H a x ∧ EqRes K H x v r ∧ Q (.bl r) H
section
variable {P : Program} {w : World} {K : PySem.W.Frag} {mg : Str → Option Value} {base : Heap}
theorem ok_Wrap___eq__ (T : Tx w K mg) : PromM P w K mg base CX0 1 "Wrap" "__eq__" ["self", "other"] (spEqW K) := by
  refine PromM.of T.cl_Wrap T.me_Wrap___eq__ T.dm_Wrap___eq__ sc_Wrap___eq__ (fun vs H Q E h => ?_) (fun _ _ _ _ _ _ us hl => match us, hl with | [_, _], _ => rfl) (fun f cdv A outer s H vs Q E hr h => ?_)
  · obtain ⟨a, x, v, r, rfl, _⟩ := h
    rfl
  · obtain ⟨a, x, v, r, rfl, ⟨dx, p, h1, h2⟩, he, k⟩ := h
    refine ⟨_, (pss_one (ps_ret (pe_and (pe_callB call_isi (by rfl) T.b_isinstance (by decide +kernel) (pa_cons (pv 1) (pa_cons (pe_glob (v := .ref _) (by rfl) T.k_Wrap rfl) pa_nil))) (pe_and (pe_cmpR op_eq (pe_fld (pv 0) rfl) (pe_fld (pv 1) rfl) (nomark _)) (pe_one (pe_cmpR (op_eqD hr.units) (pe_fld (pv 0) rfl) (pe_fld (pv 1) rfl) (nomark _))))))), ?_⟩
    rcases he with ⟨b, y, rfl, ⟨dy, p', h3, h4⟩, rfl⟩ | ⟨⟨t, ty, kt⟩, rfl⟩
    · refine ⟨_, rfl, _, _, _, _, true, rfl, .own _, T.is_Wrap.ty h3, kit_self, true, rfl, iteT ?_⟩
      refine ⟨_, rfl, a, _, dx, _, _, rfl, h1, T.cl_Wrap, T.na_Wrap_kind, rfl, _, rfl, b, _, dy, _, _, rfl, h3, T.cl_Wrap, T.na_Wrap_kind, rfl, rfl, _, rfl, ifd (fun c => ?_) (fun c => ?_)⟩
      · have c : V.str x.kind = V.str y.kind := c
        injection c with c
        refine ⟨_, rfl, a, _, dx, _, _, rfl, h1, T.cl_Wrap, T.na_Wrap_numbers, rfl, _, rfl, b, _, dy, _, _, rfl, h3, T.cl_Wrap, T.na_Wrap_numbers, rfl, ?_⟩
        refine ⟨_, _, .tup (SqT.of h2) (dp_ints _), .tup (SqT.of h4) (dp_ints _), (shp_ints_t _).shaped, (shp_ints_t _).shaped, ?_⟩
        have e : PyData.eqv (.tuple (x.nums.map PyData.int)) (.tuple (y.nums.map PyData.int)) = decide (x = y) := by
          show PyData.eqvAll (x.nums.map PyData.int) (y.nums.map PyData.int) = _
          rw [eqvAll_ints, decide_eq_decide]
          exact ⟨fun z => wr_ext c z, fun z => by rw [z]⟩
        rw [e]
        exact k
      · have c : ¬ V.str x.kind = V.str y.kind := c
        have e : decide (x = y) = false := decide_eq_false (fun z => c (by rw [z]))
        rw [e] at k
        exact k
    · exact ⟨_, rfl, _, _, _, _, false, rfl, .own _, ty, kt, false, rfl, iteF k⟩
end
/-! ### stacks compared with anything; their text by repr -/
theorem lists_eqB {ws us : List Wr} (n m : Nat) (hn : n = ws.length) (hm : m = us.length) : ((n == m) && (List.range n).all fun i => decide (ws[i]? = us[i]?)) = decide (ws = us) := by
  subst hn hm
  by_cases h : ws = us
  · subst h
    simp
  · rw [decide_eq_false h]
    by_cases hl : ws.length = us.length
    · have : ((List.range ws.length).all fun i => decide (ws[i]? = us[i]?)) = false := by
        rw [List.all_eq_false]
        refine Classical.byContradiction fun no => h (List.ext_getElem? fun i => ?_)
        by_cases c : i < ws.length
        · refine Classical.byContradiction fun ne => no ⟨i, List.mem_range.mpr c, by simp [ne]⟩
        · rw [List.getElem?_eq_none (by omega), List.getElem?_eq_none (by omega)]
      rw [this, Bool.and_false]
    · rw [show (ws.length == us.length) = false from beq_eq_false_iff_ne.mpr hl, Bool.false_and]
theorem wrapAt_inj {K : PySem.W.Frag} {H : Hp} {q : Addr} {x y : Wr} (h : WrapAt K H q x) (g : WrapAt K H q y) : x = y := by
  obtain ⟨dx, p, h1, h2⟩ := h
  obtain ⟨dy, p', g1, g2⟩ := g
  rw [h1] at g1
  injection g1 with g1
  injection g1 with _ _ g1
  simp only [wrapFs, List.cons.injEq, Prod.mk.injEq, V.str.injEq, V.ref.injEq] at g1
  obtain ⟨⟨_, e1⟩, ⟨_, e2⟩, _⟩ := g1
  rw [← e2, h2] at g2
  have e3 := HO.tup.inj (Option.some.inj g2)
  have inj : ∀ (xs ys : List Int), xs.map V.int = ys.map V.int → xs = ys := fun xs => by
    induction xs with
    | nil =>
      intro ys e
      cases ys with
      | nil => rfl
      | cons y ys => cases e
    | cons x xs ih =>
      intro ys e
      cases ys with
      | nil => cases e
      | cons y ys =>
        injection e with e1 e2
        injection e1 with e1
        rw [e1, ih _ e2]
  exact wr_ext e1 (inj _ _ e3)
def EqResS (K : PySem.W.Frag) (H : Hp) (b : Int) (ws : List Wr) (v : V) (r : Bool) : Prop := (∃ q b' us, v = .ref q ∧ StkAt K H q b' us ∧ r = decide (b = b' ∧ ws = us)) ∨ (NoC K H "Stack" v ∧ r = false)
def spEqS (K : PySem.W.Frag) : Sp := fun vs H Q _ => ∃ (a : Addr) (b : Int) (ws : List Wr) (v : V) (r : Bool), vs = [.ref a, v] ∧ StkAt K H a b ws ∧ EqResS K H b ws v r ∧ Q (.bl r) H
theorem items_ins {K : PySem.W.Frag} {H : Hp} {xs ys : List V} {ws us : List Wr} (h : WrapsAt K H xs ws) (g : WrapsAt K H ys us) : ∀ (i : Nat) x y, xs[i]? = some x → ys[i]? = some y → BIns K "Wrap" (spEqW K) E0 x y H (decide (ws[i]? = us[i]?)) := fun i x y hx hy => by
  obtain ⟨p, a, rfl, ea, ha⟩ := h.get hx
  obtain ⟨q, c, rfl, ec, hc⟩ := g.get hy
  obtain ⟨dx, t, h1, h2⟩ := id ha
  obtain ⟨dy, u, g1, g2⟩ := id hc
  have e : decide (ws[i]? = us[i]?) = decide (a = c) := by rw [ea, ec]; simp
  rw [e]
  refine ⟨p, q, dx, dy, _, _, rfl, rfl, h1, g1, fun z => ?_, p, a, .ref q, _, rfl, ha, .inl ⟨q, c, rfl, hc, rfl⟩, rfl, rfl⟩
  subst z
  exact decide_eq_true (wrapAt_inj ha hc)
def spSRepr (K : PySem.W.Frag) : Sp := fun vs H Q _ => ∃ (q : Addr) (b : Int) (ws : List Wr), vs = [.ref q] ∧ StkAt K H q b ws ∧ StkOk b ws ∧ Q (.str (Str.empty ++ "Stack(base " ++ (toString b : Str) ++ ", " ++ (toString (ws.length : Int) : Str) ++ " wraps)")) H
def rEqS (K : PySem.W.Frag) : R2 := fun x y H Q => ∃ (p dx : Addr) (fs : List (Str × V)) (t : Value), x = .ref p ∧ H p = some (.ins (He.ga K "Stack") dx fs) ∧ TyX K H y t ∧ PySem.W.notFirst K (He.ga K "Stack") t = true ∧ spEqS K [.ref p, y] H (fun v H2 => ∃ b : Bool, v = .bl b ∧ Q (.bl b) H2) E0
section
variable {P : Program} {w : World} {K : PySem.W.Frag} {mg : Str → Option Value} {base : Heap}
theorem ok_Stack___eq__ (T : Tx w K mg) : PromM P w K mg base CX0 3 "Stack" "__eq__" ["self", "other"] (spEqS K) := by
  refine PromM.of T.cl_Stack T.me_Stack___eq__ T.dm_Stack___eq__ sc_Stack___eq__ (fun vs H Q E h => ?_) (fun _ _ _ _ _ _ us hl => match us, hl with | [_, _], _ => rfl) (fun f cdv A outer s H vs Q E hr h => ?_)
  · obtain ⟨a, b, ws, v, r, rfl, _⟩ := h
    rfl
  · obtain ⟨a, b, ws, v, r, rfl, ⟨dx, t, xs, h1, h2, hw⟩, he, k⟩ := h
    refine ⟨_, (pss_one (ps_ret (pe_and (pe_callB call_isi (by rfl) T.b_isinstance (by decide +kernel) (pa_cons (pv 1) (pa_cons (pe_glob (v := .ref _) (by rfl) T.k_Stack rfl) pa_nil))) (pe_and (pe_cmp (pc_eqI (pe_fld (pv 0) rfl) (pe_fld (pv 1) rfl))) (pe_one (pe_cmpR (op_eqTB (eqB_ins (ok_Wrap___eq__ T) pass0) (hr.mono (by decide))) (pe_fld (pv 0) rfl) (pe_fld (pv 1) rfl) (nomark _))))))), ?_⟩
    rcases he with ⟨q, b', us, rfl, ⟨dy, t', ys, h3, h4, hw'⟩, rfl⟩ | ⟨⟨t, ty, kt⟩, rfl⟩
    · refine ⟨_, rfl, _, _, _, _, true, rfl, .own _, T.is_Stack.ty h3, kit_self, true, rfl, iteT ?_⟩
      refine ⟨_, rfl, a, _, dx, _, _, rfl, h1, T.cl_Stack, T.na_Stack_base, rfl, _, rfl, q, _, dy, _, _, rfl, h3, T.cl_Stack, T.na_Stack_base, rfl, _, _, rfl, rfl, _, rfl, ifd (fun c => ?_) (fun c => ?_)⟩
      · have c : b = b' := c
        refine ⟨_, rfl, a, _, dx, _, _, rfl, h1, T.cl_Stack, T.na_Stack_wraps, rfl, _, rfl, q, _, dy, _, _, rfl, h3, T.cl_Stack, T.na_Stack_wraps, rfl, ?_⟩
        refine ⟨t, t', xs, ys, fun i => decide (ws[i]? = us[i]?), rfl, rfl, SqT.of h2, SqT.of h4, items_ins hw hw', ?_⟩
        rw [lists_eqB _ _ hw.len hw'.len]
        have e : decide (b = b' ∧ ws = us) = decide (ws = us) := by simp [c]
        rw [e] at k
        exact k
      · have c : ¬ b = b' := c
        have e : decide (b = b' ∧ ws = us) = false := decide_eq_false fun z => c z.1
        rw [e] at k
        exact k
    · exact ⟨_, rfl, _, _, _, _, false, rfl, .own _, ty, kt, false, rfl, iteF k⟩
end
/-! ### rows: the wraps that are on behind a step, and the bound -/
def endV : Option Int → V
  | none => .non
  | some m => .int m
def endO : Stp → Option Int
  | .bound m => some m
  | _ => none
def RowAt (D : Addr) (H : Hp) (v : V) (ws : List Wr) (e : Option Int) : Prop := ∃ (t l : Addr) (xs : List V), v = .ref t ∧ H t = some (.tup [.ref l, endV e]) ∧ l ≠ D ∧ H l = some (.lst xs) ∧ PlansAt H xs ws
/-- what a change keeps: all but the bowl, the road, the rows -/
def Kp3 (p r D : Addr) (H H' : Hp) : Prop := ∀ z o, z ≠ p → z ≠ r → z ≠ D → H z = some o → H' z = some o
def refsL (ys : List V) : Prop := ∀ y ∈ ys, ∃ a, y = .ref a
theorem plan_nD {H : Hp} {q D : Addr} {a : Wr} {ys : List V} (h : PlanAt H q a) (hD : H D = some (.lst ys)) (hy : refsL ys) : q ≠ D := fun z => by
  have h : H q = some (.lst (V.str a.kind :: a.nums.map V.int)) := h
  rw [z, hD] at h
  injection h with h
  injection h with h
  obtain ⟨b, e⟩ := hy (V.str a.kind) (by rw [h]; exact List.mem_cons_self ..)
  cases e
theorem plan_nR {K : PySem.W.Frag} {H : Hp} {q r dx : Addr} {a : Wr} {C : Addr} {fs : List (Str × V)} (h : PlanAt H q a) (hr : H r = some (.ins C dx fs)) : q ≠ r := fun z => by
  have h : H q = some (.lst (V.str a.kind :: a.nums.map V.int)) := h
  rw [z, hr] at h
  cases h
theorem plan_np {H : Hp} {q p : Addr} {a : Wr} (hq : PlanAt H q a) (hp : PurseAt H p) : q ≠ p := fun z => by
  obtain ⟨_, _, _, e, _⟩ := hp
  have hq : H q = some (.lst (V.str a.kind :: a.nums.map V.int)) := hq
  rw [z, e] at hq
  injection hq with hq
  injection hq with hq
  cases hq
theorem PlansAt.refs {H : Hp} {xs : List V} {ws : List Wr} (h : PlansAt H xs ws) : refsL xs := by
  induction h with
  | nil => intro y hy; cases hy
  | cons _ _ ih =>
    intro y hy
    rcases List.mem_cons.mp hy with rfl | hy
    · exact ⟨_, rfl⟩
    · exact ih y hy
theorem refs_np {H : Hp} {l p : Addr} {xs : List V} (h : H l = some (.lst xs)) (hx : refsL xs) (hp : PurseAt H p) : l ≠ p := fun z => by
  obtain ⟨d, m, c, e, _⟩ := hp
  rw [z, e] at h
  injection h with h
  injection h with h
  obtain ⟨b, eb⟩ := hx (.int d) (by rw [← h]; exact List.mem_cons_self ..)
  cases eb
/-- where the bowl, the road and the rows lie -/
structure At3 (K : PySem.W.Frag) (p r D : Addr) (H : Hp) : Prop where
  hp : PurseAt H p
  hr : ∃ dx fs, H r = some (.ins (He.ga K "Road") dx fs)
  hD : ∃ ys, H D = some (.lst ys) ∧ refsL ys
theorem RowAt.kp {K : PySem.W.Frag} {p r D : Addr} {H H' : Hp} {v : V} {ws : List Wr} {e : Option Int} (h : RowAt D H v ws e) (a : At3 K p r D H) (k : Kp3 p r D H H') : RowAt D H' v ws e := by
  obtain ⟨t, l, xs, rfl, h1, nl, h2, h3⟩ := h
  obtain ⟨dx, fs, hr⟩ := a.hr
  obtain ⟨ys, hD, hy⟩ := a.hD
  have hp := a.hp
  refine ⟨t, l, xs, rfl, ?_, nl, ?_, h3.kp fun q c hq _ => k _ _ (plan_np hq hp) (plan_nR (K := K) hq hr) (plan_nD hq hD hy) hq⟩
  · obtain ⟨_, _, _, e2, _⟩ := id hp
    exact k _ _ (fun z => by rw [z, e2] at h1; cases h1) (fun z => by rw [z, hr] at h1; cases h1) (fun z => by rw [z, hD] at h1; cases h1) h1
  · exact k _ _ (refs_np h2 h3.refs hp) (fun z => by rw [z, hr] at h2; cases h2) nl h2
structure RowsAt (D : Addr) (H : Hp) (xs : List V) (ss : List Stp) : Prop where
  len : xs.length = ss.length
  refs : refsL xs
  at_ : ∀ (i : Nat) (s : Stp), ss[i]? = some s → ∃ x, xs[i]? = some x ∧ RowAt D H x (onL (ss.take (i + 1))) (endO s)
theorem RowsAt.kp {K : PySem.W.Frag} {p r D : Addr} {H H' : Hp} {xs : List V} {ss : List Stp} (h : RowsAt D H xs ss) (a : At3 K p r D H) (k : Kp3 p r D H H') : RowsAt D H' xs ss :=
  ⟨h.len, h.refs, fun i s e => by
    obtain ⟨x, h1, h2⟩ := h.at_ i s e
    exact ⟨x, h1, h2.kp a k⟩⟩
theorem RowsAt.snoc {D : Addr} {H : Hp} {xs : List V} {ss : List Stp} {v : V} {s : Stp} (h : RowsAt D H xs ss) (hv : RowAt D H v (onL (ss ++ [s])) (endO s)) : RowsAt D H (xs ++ [v]) (ss ++ [s]) := by
  refine ⟨by rw [List.length_append, List.length_append, h.len]; rfl, fun y hy => ?_, fun i u e => ?_⟩
  · rcases List.mem_append.mp hy with hy | hy
    · exact h.refs y hy
    · rw [List.mem_singleton.mp hy]
      obtain ⟨t, _, _, e, _⟩ := hv
      exact ⟨t, e⟩
  · by_cases c : i < ss.length
    · rw [List.getElem?_append_left c] at e
      obtain ⟨x, h1, h2⟩ := h.at_ i u e
      refine ⟨x, by rw [List.getElem?_append_left (by rw [h.len]; exact c)]; exact h1, ?_⟩
      rw [List.take_append_of_le_length (by omega)]
      exact h2
    · have hi : i = ss.length := by
        have := (List.getElem?_eq_some_iff.mp e).1
        rw [List.length_append] at this
        simp only [List.length_cons, List.length_nil] at this
        omega
      subst hi
      rw [List.getElem?_append_right (Nat.le_refl _), Nat.sub_self] at e
      have e : s = u := by simpa using e
      subst e
      refine ⟨v, by rw [List.getElem?_append_right (by rw [h.len]; exact Nat.le_refl _), h.len, Nat.sub_self]; rfl, ?_⟩
      rw [List.take_of_length_le (by rw [List.length_append]; exact Nat.le_refl _)]
      exact hv
theorem fine_room {ws : List Wr} {a : Wr} (h : a.use ≤ 120 / fineL ws) (f0 : 1 ≤ fineL ws) : fineL (ws ++ [a]) ≤ 120 := by
  have e : fineL (ws ++ [a]) = fineL ws * a.use := by
    unfold fineL
    rw [List.foldl_append]
    show stepF _ a = _
    rw [step_use]
  rw [e]
  have h1 := Int.mul_le_mul_of_nonneg_left h (show 0 ≤ fineL ws by omega)
  have h2 := Int.mul_ediv_self_le (x := 120) (k := fineL ws) (by omega)
  omega
theorem cut_last {x : V} {xs : List V} : cutV (xs ++ [x]) none (some (-1)) = xs := by
  unfold cutV
  have h : HT.sIx (xs ++ [x]).length (xs ++ [x]).length (some (-1)) = xs.length := by
    have e : (xs ++ [x]).length = xs.length + 1 := by rw [List.length_append]; rfl
    rw [e]
    unfold HT.sIx
    simp
    omega
  rw [h, HT.sIx_none]
  simp
theorem PlansAt.init {H : Hp} {y : V} : ∀ {ys : List V} {ws : List Wr}, PlansAt H (ys ++ [y]) ws → PlansAt H ys ws.dropLast
  | [], _, h => by
    cases h with
    | cons h r =>
      cases r
      exact .nil
  | x :: ys, _, h => by
    cases h with
    | @cons q a _ ws' h r =>
      have ih := PlansAt.init (ys := ys) r
      cases ws' with
      | nil =>
        have this : (ys ++ [y]).length = 0 := r.len
        rw [List.length_append] at this
        simp at this
      | cons w ws' => exact .cons h ih
theorem PlansAt.cut {H : Hp} {xs : List V} {ws : List Wr} (h : PlansAt H xs ws) (n : xs ≠ []) : PlansAt H (cutV xs none (some (-1))) ws.dropLast := by
  obtain ⟨ys, y, e⟩ : ∃ ys y, xs = ys ++ [y] := ⟨xs.dropLast, xs.getLast n, (List.dropLast_concat_getLast n).symm⟩
  rw [e, cut_last]
  rw [e] at h
  exact h.init
structure W82 (K : PySem.W.Frag) (p r D : Addr) (H : Hp) (b : Int) (ss : List Stp) (xs : List V) (l : Addr) (ys : List V) (G : Hp) : Prop where
  d : Drew p H G
  hR : RoadAt K G r b ss
  hD : G D = some (.lst xs)
  rows : RowsAt D G xs ss
  hl : G l = some (.lst ys)
  hp : PlansAt G ys (onL ss)
  nl : l ≠ D
theorem W82.at3 {K : PySem.W.Frag} {p r D : Addr} {H : Hp} {b : Int} {ss : List Stp} {xs : List V} {l : Addr} {ys : List V} {G : Hp} (j : W82 K p r D H b ss xs l ys G) : At3 K p r D G := by
  obtain ⟨dx, t, q, zs, h1, _⟩ := j.hR.at_
  exact ⟨j.d.at_, ⟨dx, _, h1⟩, ⟨xs, j.hD, j.rows.refs⟩⟩
theorem W82.same {K : PySem.W.Frag} {p r D : Addr} {H : Hp} {b : Int} {ss : List Stp} {xs : List V} {l : Addr} {ys : List V} {G F : Hp} (j : W82 K p r D H b ss xs l ys G) (s : Same G F) : W82 K p r D H b ss xs l ys F :=
  ⟨j.d.same s, j.hR.same s, s _ _ j.hD, j.rows.kp j.at3 (fun z o _ _ _ e => s z o e), s _ _ j.hl, j.hp.same s, j.nl⟩
theorem W82.drew {K : PySem.W.Frag} {p r D : Addr} {H : Hp} {b : Int} {ss : List Stp} {xs : List V} {l : Addr} {ys : List V} {G F : Hp} (j : W82 K p r D H b ss xs l ys G) (d : Drew p G F) : W82 K p r D H b ss xs l ys F := by
  have hp := j.d.at_
  obtain ⟨_, _, _, e, _⟩ := id hp
  exact ⟨j.d.trans d, j.hR.kp e d.kp, d.kp _ _ (refs_np j.hD j.rows.refs hp) j.hD, j.rows.kp j.at3 (fun z o n _ _ e => d.kp z o n e), d.kp _ _ (refs_np j.hl j.hp.refs hp) j.hl, j.hp.kp (fun q a hq _ => d.kp _ _ (plan_np hq hp) hq), j.nl⟩
theorem app_row {K : PySem.W.Frag} {p r D : Addr} {H : Hp} {b : Int} {ss : List Stp} {s : Stp} {xs : List V} {l : Addr} {ys : List V} {F : Hp} {t : Addr} (d : Drew p H F) (hR : RoadAt K F r b (ss ++ [s])) (nD : H D = none) (hD : F D = some (.lst xs)) (rows : RowsAt D F xs ss) (hl : F l = some (.lst ys)) (hp : PlansAt F ys (onL (ss ++ [s]))) (nl : l ≠ D) (ht : F t = none) :
    W82 K p r D H b (ss ++ [s]) (xs ++ [.ref t]) l ys (upd (upd F t (.tup [.ref l, endV (endO s)])) D (.lst (xs ++ [.ref t]))) := by
  have s1 := up (o := .tup [.ref l, endV (endO s)]) ht
  have hD1 := s1 _ _ hD
  have a3 : At3 K p r D F := by
    obtain ⟨dx, u, q, zs, h1, _⟩ := hR.at_
    exact ⟨d.at_, ⟨dx, _, h1⟩, ⟨xs, hD, rows.refs⟩⟩
  have ht1 := upd_same (H := F) (a := t) (o := .tup [.ref l, endV (endO s)])
  have hR1 := hR.same s1
  have d1 := d.same s1
  have hl1 := s1 _ _ hl
  have hp1 := hp.same s1
  have nt : t ≠ D := fun z => by rw [z, hD] at ht; cases ht
  generalize upd F t (.tup [.ref l, endV (endO s)]) = F1 at s1 hD1 ht1 hR1 d1 hl1 hp1 ⊢
  have kD : Kp D F1 (upd F1 D (.lst (xs ++ [.ref t]))) := fun x o n h => by rw [upd_ne n]; exact h
  have nDp : D ≠ p := refs_np hD1 rows.refs d1.at_
  refine ⟨⟨?_, fun x o n h => ?_⟩, hR1.kp hD1 kD, upd_same, ?_, kD _ _ nl hl1, hp1.kp fun q c hq _ => kD _ _ (plan_nD hq hD1 rows.refs) hq, nl⟩
  · obtain ⟨x, m, c, e, rest⟩ := d1.at_
    exact ⟨x, m, c, kD _ _ (Ne.symm nDp) e, rest⟩
  · exact kD _ _ (fun z => by rw [z, nD] at h; cases h) (d1.kp x o n h)
  · refine (rows.kp a3 (fun z o _ _ n3 e => kD _ _ n3 (s1 z o e))).snoc ⟨t, l, ys, rfl, kD _ _ nt ht1, nl, kD _ _ nl hl1, hp1.kp fun q c hq _ => kD _ _ (plan_nD hq hD1 rows.refs) hq⟩
def spWalked (K : PySem.W.Frag) : Sp := fun vs H Q _ => ∃ (p : Addr) (b : Int), vs = [.ref p, .int b] ∧ PurseAt H p ∧ 2 ≤ b ∧ b ≤ 256 ∧ ∀ (t r D : Addr) (xs : List V) (ss : List Stp) (H' : Hp), Drew p H H' → H' t = some (.tup [.ref r, .ref D]) → RoadAt K H' r b ss → ss.length ≤ 14 → H' D = some (.lst xs) → RowsAt D H' xs ss → Q (.ref t) H'
section
variable {P : Program} {w : World} {K : PySem.W.Frag} {mg : Str → Option Value} {base : Heap}
theorem ok_L_walked (T : Tx w K mg) : Prom P w K mg base CX0 9 "_law_walked" s_L_walked ["_law_bowl_here", "_law_root_here"] (spWalked K) := by
  refine Prom.of T.d_L_walked sc_L_walked (fun vs H Q E h => ?_) (fun _ _ _ _ _ _ us hl => match us, hl with | [_, _], _ => rfl) (fun f cdv A outer s H vs Q E hr h => ?_)
  · obtain ⟨p, b, rfl, _⟩ := h
    rfl
  · obtain ⟨p, b, rfl, hp, b0, b1, k⟩ := h
    refine ⟨_, (pss_cons (ps_par3 (i := 2) (j := 3) (l := 4) (by rfl) sc_L_walked.nd rfl rfl rfl (by decide) (by decide) (by decide) rfl rfl rfl (pa_cons (pe_newP (ok_Road T) (hr.mono (by decide)) (by rfl) pass0 (pa_cons (pv 1) pa_nil)) (pa_cons (pe_lst pa_nil) (pa_cons (pe_lst pa_nil) pa_nil))) (by rfl))
      (pss_cons (ps_for PassesOwn.never (by rfl) (pi_range1 (by rfl) T.b_range (pa_cons (pe_callP (ok_L_scoop T) (hr.mono (by decide)) (by rfl) pass0 (pa_cons (pv 0) (pa_cons pe_int pa_nil))) pa_nil)) (pg_name (i := 5) sc_L_walked.nd rfl (Or.inl rfl)) (pss_cons (ps_par (i := 6) (j := 7) (by rfl) sc_L_walked.nd rfl rfl (by decide) rfl rfl (pa_cons (pe_callP (ok_L_scoop T) (hr.mono (by decide)) (by rfl) pass0 (pa_cons (pv 0) (pa_cons pe_int pa_nil))) (pa_cons pe_non pa_nil)) (by rfl))
      (pss_cons (ps_if (PW.pt (pw_and (pt_cmp (pc_lt (pv 6) pe_int)) (pw_and1 (pt_cmp (pc_lt (pe_callB call_len_seq (by rfl) T.b_len (by decide +kernel) (pa_cons (pv 3) pa_nil)) pe_int))))) (pss_cons (ps_set (i := 3) sc_L_walked.nd rfl (Or.inl rfl) (pe_op op_cat (pv 3) (pe_lst (pa_cons (pe_callP (ok_L_plan T) (hr.mono (by decide)) (by rfl) pass0 (pa_cons (pv 0) (pa_cons (pe_op op_fdiv pe_int (pe_callP (ok_L_fine_all T) (hr.mono (by decide)) (by rfl) pass0 (pa_cons (pv 3) pa_nil))) pa_nil))) pa_nil))))
      (pss_one (ps_expr (pe_methP (ok_Road_push T) (hr.mono (by decide)) pass0 (pv 2) (pa_cons (pe_callP (ok_L_wrap T) (hr.mono (by decide)) (by rfl) pass0 (pa_cons (pe_ix ix_list (pv 3) (pe_un un_neg pe_int) (fun _ _ => rfl)) pa_nil)) pa_nil))))) (pss_one (ps_if (PW.pt (pw_and (pt_cmp (pc_eqI (pv 6) pe_int)) (pw_and1 (pt_cmpR (op_neE hr.units) (pv 3) (pe_lst pa_nil) (nomark _))))) (pss_cons (ps_set (i := 3) sc_L_walked.nd rfl (Or.inl rfl) (pe_slice sl_list (pv 3) po_none (po_some (pe_un un_neg pe_int))))
      (pss_one (ps_expr (pe_methP0 (ok_Road_pop T) (hr.mono (by decide)) pass0 (pv 2))))) (pss_cons (ps_set (i := 7) sc_L_walked.nd rfl (Or.inl rfl) (pe_callP (ok_L_one_of T) (hr.mono (by decide)) (by rfl) pass0 (pa_cons (pv 0) (pa_cons (pe_lst (pa_cons (pe_callP (ok_L_far T) (hr.mono (by decide)) (by rfl) pass0 (pa_cons (pv 0) (pa_cons (pv 1) pa_nil))) (pa_cons (pe_callP (ok_L_far T) (hr.mono (by decide)) (by rfl) pass0 (pa_cons (pv 0) (pa_cons (pv 1) pa_nil))) (pa_cons (pe_callP (ok_L_scoop T) (hr.mono (by decide)) (by rfl) pass0 (pa_cons (pv 0) (pa_cons pe_int pa_nil))) pa_nil)))) pa_nil))))
      (pss_one (ps_expr (pe_methP (ok_Road_bound T) (hr.mono (by decide)) pass0 (pv 2) (pa_cons (pv 7) pa_nil))))))))
      (pss_one (ps_expr (pe_bm PySem.F.plainAttrs_list PySem.F.slot_list_append PySem.F.type_list_append mt_append (pv 4) (pa_cons (pe_tup (pa_cons (pv 3) (pa_cons (pv 7) pa_nil))) pa_nil)))))))
      (pss_one (ps_ret (pe_tup (pa_cons (pv 2) (pa_cons (pv 4) pa_nil))))))), ?_⟩
    refine ⟨_, rfl, b, rfl, b0, b1, fun r H1 nr s1 hR => ⟨Nat.zero_le _, fun lo hlo => ⟨Nat.zero_le _, fun D hD => ⟨_, _, _, rfl, ?_⟩⟩⟩⟩
    have nrD : D ≠ lo := fun z => by rw [z, upd_same] at hD; cases hD
    have nlo : H lo = none := same_before s1 hlo
    have nD : H D = none := same_before (s1.trans (up hlo)) hD
    have j0 : W82 K p r D H b [] [] lo [] (upd (upd H1 lo (.lst [])) D (.lst [])) := by
      have s2 := (s1.trans (up (o := .lst []) hlo)).trans (up (o := .lst []) hD)
      exact ⟨(Drew.refl hp).same s2, hR.same ((up hlo).trans (up hD)), upd_same, ⟨rfl, fun y hy => (by cases hy), fun i s e => (by simp at e)⟩, up hD _ _ upd_same, .nil, Ne.symm nrD⟩
    refine ⟨_, rfl, p, 15, rfl, j0.d.at_, by decide, by decide, fun m H2 m0 m1 d2 => ?_⟩
    have j0 := j0.drew d2
    refine ⟨_, rfl, by omega, by omega, for_range (lo := 0) (n := m.toNat) (fun i σ G => ∃ (ss : List Stp) (xs : List V) (l : Addr) (ys : List V) (e5 e6 e7 : Option V), ss.length = i ∧ W82 K p r D H b ss xs l ys G ∧ σ = [some (.ref p), some (.int b), some (.ref r), some (.ref l), some (.ref D), e5, e6, e7]) ⟨[], [], lo, [], none, none, none, rfl, j0, rfl⟩ ?_ ?_⟩
    · rintro i σ G hi ⟨ss, xs, l, ys, e5, e6, e7, hss, j, rfl⟩
      refine gn ?_
      refine st_eq [some (.ref p), some (.int b), some (.ref r), some (.ref l), some (.ref D), some (.int (0 + (i : Int))), e6, e7] rfl ?_
      refine ⟨_, rfl, p, 5, rfl, j.d.at_, by decide, by decide, fun way G1 w0 w1 d1 => ⟨_, _, rfl, ?_⟩⟩
      have j := j.drew d1
      refine st_eq [some (.ref p), some (.int b), some (.ref r), some (.ref l), some (.ref D), some (.int (0 + (i : Int))), some (.int way), some .non] rfl ?_
      refine ⟨_, rfl, _, _, rfl, rfl, _, rfl, ifd (fun c1 => ?_) (fun c1 => ?_)⟩
      · refine ⟨_, rfl, l, ys, rfl, .inl (SqL.of j.hl), _, _, rfl, rfl, _, rfl, ifd (fun c2 => ?_) (fun c2 => ?_)⟩
        · have c2 : (ys.length : Int) < 6 := c2
          have yl := j.hp.len
          have so := j.hR.rb.stk b0 b1
          have f0 : 1 ≤ fineL (onL ss) := fine_pos so.ok (p := 1) (Int.le_refl _)
          have f1 := so.fine
          refine ⟨_, rfl, _, rfl, _, rfl, l, ys, onL ss, rfl, j.hl, j.hp, so.ok, so.len, fun F1 s1 => ?_⟩
          have j := j.same s1
          refine ⟨_, _, rfl, rfl, ?cd, p, _, rfl, j.d.at_, ?r1, ?r2, fun q a F2 oka use nq d2 hq => ?_⟩
          case cd => exact ⟨by omega, by omega⟩
          case r1 => exact (Int.le_ediv_iff_mul_le (by omega)).mpr (by omega)
          case r2 => exact Int.ediv_le_self _ (by decide)
          have j := j.drew d2
          refine ⟨(by show 1 ≤ sizeLine; decide), fun e1 he1 => ?_⟩
          have j := j.same (up (o := .lst [V.ref q]) he1)
          have hq := up (o := .lst [V.ref q]) he1 _ _ hq
          refine ⟨l, e1, ys, [.ref q], rfl, rfl, j.hl, upd_same, (by rw [sizeLine_eq]; show ys.length + 1 ≤ _; omega), fun l2 hl2 => gn ?_⟩
          have hp2 := (j.hp.snoc hq).same (up (o := .lst (ys ++ [.ref q])) hl2)
          have nl2 : l2 ≠ D := fun z => by have := j.hD; rw [z, this] at hl2; cases hl2
          have j := j.same (up (o := .lst (ys ++ [.ref q])) hl2)
          have hq := up (o := .lst (ys ++ [.ref q])) hl2 _ _ hq
          have g2 := upd_same (H := upd F2 e1 (.lst [V.ref q])) (a := l2) (o := .lst (ys ++ [.ref q]))
          generalize upd (upd F2 e1 (.lst [V.ref q])) l2 (.lst (ys ++ [.ref q])) = G2 at j hp2 g2 hq ⊢
          refine st_eq [some (.ref p), some (.int b), some (.ref r), some (.ref l2), some (.ref D), some (.int (0 + (i : Int))), some (.int way), some .non] rfl ?_
          have so2 : StkOk b (onL ss ++ [a]) := ⟨so.b0, so.b1, fun x hx => by
            rcases List.mem_append.mp hx with hx | hx
            · exact so.ok x hx
            · rw [List.mem_singleton.mp hx]; exact oka, by rw [List.length_append]; show (onL ss).length + 1 ≤ 6; omega, fine_room use f0⟩
          obtain ⟨dx, t0, q0, zs, hr, _⟩ := j.hR.at_
          refine ⟨_, rfl, r, dx, _, rfl, hr, rfl, _, rfl, _, rfl, l2, _, _, _, rfl, rfl, SqL.of g2, atI_last1, q, a, rfl, hq, oka, fun wq F3 nw s3 hW => ?_⟩
          have j := j.same s3
          have hr := s3 _ _ hr
          have g2 := s3 _ _ g2
          have hp2 := hp2.same s3
          refine ⟨r, wq, b, ss, a, rfl, j.hR, (by omega), hW, so2, fun F5 kr hR5 => ?_⟩
          have hD5 := kr _ _ (fun z => by have := j.hD; rw [z, hr] at this; cases this) j.hD
          have rows5 := j.rows.kp j.at3 (fun z o _ n2 _ e => kr z o n2 e)
          have d5 : Drew p H F5 := ⟨by
            obtain ⟨x, m, c, e, rest⟩ := j.d.at_
            exact ⟨x, m, c, kr _ _ (fun z => by rw [z, hr] at e; cases e) e, rest⟩, fun x o n h => kr _ _ (fun z => by rw [z, nr] at h; cases h) (j.d.kp x o n h)⟩
          have hl5 := kr _ _ (fun z => by have := g2; rw [z, hr] at this; cases this) g2
          have hp5 : PlansAt F5 (ys ++ [V.ref q]) (onL (ss ++ [(Stp.push a)])) := by
            rw [onL_snoc]
            exact hp2.kp fun q c hq _ => kr _ _ (plan_nR (K := K) hq hr) hq
          refine ⟨_, rfl, .inl ⟨rfl, _, SqL.of hD5⟩, _, rfl, _, rfl, (by show 2 ≤ sizeLine; decide), fun t ht => ⟨D, _, _, rfl, rfl, up ht _ _ hD5, (by rw [rows5.len, sizeLine_eq]; omega), ?_⟩⟩
          exact ⟨ss ++ [(Stp.push a)], _, l2, (ys ++ [V.ref q]), _, _, _, by rw [List.length_append, hss]; rfl, app_row d5 hR5 nD hD5 rows5 hl5 hp5 nl2 ht, rfl⟩
        · refine ⟨_, rfl, _, _, rfl, rfl, _, rfl, ifd (fun c2 => ?_) (fun c2 => iteF ?_)⟩
          · refine ⟨_, rfl, Nat.zero_le _, fun e0 he0 => ?_⟩
            have j := j.same (up (o := .lst []) he0)
            refine ⟨l, e0, ys, rfl, rfl, SqL.of j.hl, SqL.of upd_same, _, rfl, ?_⟩
            by_cases hy : ys = []
            · refine ifb_neg (by rw [hy]; rfl) ?_
              refine ⟨_, rfl, _, rfl, _, rfl, p, b, rfl, j.d.at_, b0, b1, fun n1 F1 n10 n11 d1 => ?_⟩
              have j := j.drew d1
              refine ⟨_, rfl, _, rfl, p, b, rfl, j.d.at_, b0, b1, fun n2 F2 n20 n21 d2 => ?_⟩
              have j := j.drew d2
              refine ⟨_, rfl, p, 2000, rfl, j.d.at_, by decide, by decide, fun n3 F3 n30 n31 d3 => ⟨(by show 3 ≤ sizeLine; decide), fun q hq => ?_⟩⟩
              have j := j.drew d3
              have nq := j.d.ne hq
              have j := j.same (up (o := .lst [V.int n1, V.int n2, V.int n3]) hq)
              refine ⟨p, q, _, rfl, j.d.at_, nq, upd_same, (by show 0 < 3; decide), (by show 3 ≤ 1000; decide), fun i0 x F4 hx d4 => gn ?_⟩
              have j := j.drew d4
              obtain ⟨n, rfl, n0, nm⟩ : ∃ n : Int, x = .int n ∧ 0 ≤ n ∧ n ≤ 10 ^ 60 - 1 := by
                rcases i0 with _ | _ | _ | i0
                · exact ⟨n1, (Option.some.inj hx).symm, n10, n11⟩
                · exact ⟨n2, (Option.some.inj hx).symm, n20, n21⟩
                · exact ⟨n3, (Option.some.inj hx).symm, n30, by omega⟩
                · exact absurd hx (by simp)
              refine st_eq [some (.ref p), some (.int b), some (.ref r), some (.ref l), some (.ref D), some (.int (0 + (i : Int))), some (.int way), some (.int n)] rfl ?_
              obtain ⟨dx, t0, q0, zs, hr, _⟩ := j.hR.at_
              refine ⟨_, rfl, r, dx, _, rfl, hr, rfl, _, rfl, r, b, n, ss, rfl, j.hR, (by omega), n0, nm, fun F5 kr hR5 => ?_⟩
              have hD5 := kr _ _ (fun z => by have := j.hD; rw [z, hr] at this; cases this) j.hD
              have rows5 := j.rows.kp j.at3 (fun z o _ n2 _ e => kr z o n2 e)
              have d5 : Drew p H F5 := ⟨by
                obtain ⟨x, m, c, e, rest⟩ := j.d.at_
                exact ⟨x, m, c, kr _ _ (fun z => by rw [z, hr] at e; cases e) e, rest⟩, fun x o n h => kr _ _ (fun z => by rw [z, nr] at h; cases h) (j.d.kp x o n h)⟩
              have hl5 := kr _ _ (fun z => by have := j.hl; rw [z, hr] at this; cases this) j.hl
              have hp5 : PlansAt F5 ys (onL (ss ++ [(Stp.bound n)])) := by
                rw [onL_snoc]
                exact j.hp.kp fun q c hq _ => kr _ _ (plan_nR (K := K) hq hr) hq
              refine ⟨_, rfl, .inl ⟨rfl, _, SqL.of hD5⟩, _, rfl, _, rfl, (by show 2 ≤ sizeLine; decide), fun t ht => ⟨D, _, _, rfl, rfl, up ht _ _ hD5, (by rw [rows5.len, sizeLine_eq]; omega), ?_⟩⟩
              exact ⟨ss ++ [(Stp.bound n)], _, l, ys, _, _, _, by rw [List.length_append, hss]; rfl, app_row d5 hR5 nD hD5 rows5 hl5 hp5 j.nl ht, rfl⟩
            · refine ifb_pos (by cases ys with | nil => exact absurd rfl hy | cons _ _ => rfl) ?_
              have ne : onL ss ≠ [] := fun z => hy (by have := j.hp.len; rw [z] at this; exact List.eq_nil_of_length_eq_zero this)
              refine ⟨_, rfl, _, rfl, _, rfl, l, _, rfl, SqL.of j.hl, fun l2 hl2 => gn ?_⟩
              have hp2 := j.hp.cut hy
              have nl2 : l2 ≠ D := fun z => by have := j.hD; rw [z, this] at hl2; cases hl2
              have j := j.same (up (o := .lst (cutV ys none (some (-1)))) hl2)
              have hp2 := hp2.same (up (o := .lst (cutV ys none (some (-1)))) hl2)
              have g2 := upd_same (H := upd G1 e0 (.lst [])) (a := l2) (o := .lst (cutV ys none (some (-1))))
              generalize upd (upd G1 e0 (.lst [])) l2 (.lst (cutV ys none (some (-1)))) = G2 at j hp2 g2 ⊢
              refine st_eq [some (.ref p), some (.int b), some (.ref r), some (.ref l2), some (.ref D), some (.int (0 + (i : Int))), some (.int way), some .non] rfl ?_
              obtain ⟨dx, t0, q0, zs, hr, _⟩ := j.hR.at_
              refine ⟨_, rfl, r, dx, _, rfl, hr, rfl, r, b, ss, rfl, j.hR, (by omega), ne, fun F5 kr hR5 => ?_⟩
              have hD5 := kr _ _ (fun z => by have := j.hD; rw [z, hr] at this; cases this) j.hD
              have rows5 := j.rows.kp j.at3 (fun z o _ n2 _ e => kr z o n2 e)
              have d5 : Drew p H F5 := ⟨by
                obtain ⟨x, m, c, e, rest⟩ := j.d.at_
                exact ⟨x, m, c, kr _ _ (fun z => by rw [z, hr] at e; cases e) e, rest⟩, fun x o n h => kr _ _ (fun z => by rw [z, nr] at h; cases h) (j.d.kp x o n h)⟩
              have hl5 := kr _ _ (fun z => by have := g2; rw [z, hr] at this; cases this) g2
              have hp5 : PlansAt F5 (cutV ys none (some (-1))) (onL (ss ++ [Stp.pop])) := by
                rw [onL_snoc]
                exact hp2.kp fun q c hq _ => kr _ _ (plan_nR (K := K) hq hr) hq
              refine ⟨_, rfl, .inl ⟨rfl, _, SqL.of hD5⟩, _, rfl, _, rfl, (by show 2 ≤ sizeLine; decide), fun t ht => ⟨D, _, _, rfl, rfl, up ht _ _ hD5, (by rw [rows5.len, sizeLine_eq]; omega), ?_⟩⟩
              exact ⟨ss ++ [Stp.pop], _, l2, (cutV ys none (some (-1))), _, _, _, by rw [List.length_append, hss]; rfl, app_row d5 hR5 nD hD5 rows5 hl5 hp5 nl2 ht, rfl⟩
          · refine ⟨_, rfl, _, rfl, _, rfl, p, b, rfl, j.d.at_, b0, b1, fun n1 F1 n10 n11 d1 => ?_⟩
            have j := j.drew d1
            refine ⟨_, rfl, _, rfl, p, b, rfl, j.d.at_, b0, b1, fun n2 F2 n20 n21 d2 => ?_⟩
            have j := j.drew d2
            refine ⟨_, rfl, p, 2000, rfl, j.d.at_, by decide, by decide, fun n3 F3 n30 n31 d3 => ⟨(by show 3 ≤ sizeLine; decide), fun q hq => ?_⟩⟩
            have j := j.drew d3
            have nq := j.d.ne hq
            have j := j.same (up (o := .lst [V.int n1, V.int n2, V.int n3]) hq)
            refine ⟨p, q, _, rfl, j.d.at_, nq, upd_same, (by show 0 < 3; decide), (by show 3 ≤ 1000; decide), fun i0 x F4 hx d4 => gn ?_⟩
            have j := j.drew d4
            obtain ⟨n, rfl, n0, nm⟩ : ∃ n : Int, x = .int n ∧ 0 ≤ n ∧ n ≤ 10 ^ 60 - 1 := by
              rcases i0 with _ | _ | _ | i0
              · exact ⟨n1, (Option.some.inj hx).symm, n10, n11⟩
              · exact ⟨n2, (Option.some.inj hx).symm, n20, n21⟩
              · exact ⟨n3, (Option.some.inj hx).symm, n30, by omega⟩
              · exact absurd hx (by simp)
            refine st_eq [some (.ref p), some (.int b), some (.ref r), some (.ref l), some (.ref D), some (.int (0 + (i : Int))), some (.int way), some (.int n)] rfl ?_
            obtain ⟨dx, t0, q0, zs, hr, _⟩ := j.hR.at_
            refine ⟨_, rfl, r, dx, _, rfl, hr, rfl, _, rfl, r, b, n, ss, rfl, j.hR, (by omega), n0, nm, fun F5 kr hR5 => ?_⟩
            have hD5 := kr _ _ (fun z => by have := j.hD; rw [z, hr] at this; cases this) j.hD
            have rows5 := j.rows.kp j.at3 (fun z o _ n2 _ e => kr z o n2 e)
            have d5 : Drew p H F5 := ⟨by
              obtain ⟨x, m, c, e, rest⟩ := j.d.at_
              exact ⟨x, m, c, kr _ _ (fun z => by rw [z, hr] at e; cases e) e, rest⟩, fun x o n h => kr _ _ (fun z => by rw [z, nr] at h; cases h) (j.d.kp x o n h)⟩
            have hl5 := kr _ _ (fun z => by have := j.hl; rw [z, hr] at this; cases this) j.hl
            have hp5 : PlansAt F5 ys (onL (ss ++ [(Stp.bound n)])) := by
              rw [onL_snoc]
              exact j.hp.kp fun q c hq _ => kr _ _ (plan_nR (K := K) hq hr) hq
            refine ⟨_, rfl, .inl ⟨rfl, _, SqL.of hD5⟩, _, rfl, _, rfl, (by show 2 ≤ sizeLine; decide), fun t ht => ⟨D, _, _, rfl, rfl, up ht _ _ hD5, (by rw [rows5.len, sizeLine_eq]; omega), ?_⟩⟩
            exact ⟨ss ++ [(Stp.bound n)], _, l, ys, _, _, _, by rw [List.length_append, hss]; rfl, app_row d5 hR5 nD hD5 rows5 hl5 hp5 j.nl ht, rfl⟩
      · refine iteF ?_
        refine ⟨_, rfl, _, _, rfl, rfl, _, rfl, ifd (fun c2 => ?_) (fun c2 => iteF ?_)⟩
        · refine ⟨_, rfl, Nat.zero_le _, fun e0 he0 => ?_⟩
          have j := j.same (up (o := .lst []) he0)
          refine ⟨l, e0, ys, rfl, rfl, SqL.of j.hl, SqL.of upd_same, _, rfl, ?_⟩
          by_cases hy : ys = []
          · refine ifb_neg (by rw [hy]; rfl) ?_
            refine ⟨_, rfl, _, rfl, _, rfl, p, b, rfl, j.d.at_, b0, b1, fun n1 F1 n10 n11 d1 => ?_⟩
            have j := j.drew d1
            refine ⟨_, rfl, _, rfl, p, b, rfl, j.d.at_, b0, b1, fun n2 F2 n20 n21 d2 => ?_⟩
            have j := j.drew d2
            refine ⟨_, rfl, p, 2000, rfl, j.d.at_, by decide, by decide, fun n3 F3 n30 n31 d3 => ⟨(by show 3 ≤ sizeLine; decide), fun q hq => ?_⟩⟩
            have j := j.drew d3
            have nq := j.d.ne hq
            have j := j.same (up (o := .lst [V.int n1, V.int n2, V.int n3]) hq)
            refine ⟨p, q, _, rfl, j.d.at_, nq, upd_same, (by show 0 < 3; decide), (by show 3 ≤ 1000; decide), fun i0 x F4 hx d4 => gn ?_⟩
            have j := j.drew d4
            obtain ⟨n, rfl, n0, nm⟩ : ∃ n : Int, x = .int n ∧ 0 ≤ n ∧ n ≤ 10 ^ 60 - 1 := by
              rcases i0 with _ | _ | _ | i0
              · exact ⟨n1, (Option.some.inj hx).symm, n10, n11⟩
              · exact ⟨n2, (Option.some.inj hx).symm, n20, n21⟩
              · exact ⟨n3, (Option.some.inj hx).symm, n30, by omega⟩
              · exact absurd hx (by simp)
            refine st_eq [some (.ref p), some (.int b), some (.ref r), some (.ref l), some (.ref D), some (.int (0 + (i : Int))), some (.int way), some (.int n)] rfl ?_
            obtain ⟨dx, t0, q0, zs, hr, _⟩ := j.hR.at_
            refine ⟨_, rfl, r, dx, _, rfl, hr, rfl, _, rfl, r, b, n, ss, rfl, j.hR, (by omega), n0, nm, fun F5 kr hR5 => ?_⟩
            have hD5 := kr _ _ (fun z => by have := j.hD; rw [z, hr] at this; cases this) j.hD
            have rows5 := j.rows.kp j.at3 (fun z o _ n2 _ e => kr z o n2 e)
            have d5 : Drew p H F5 := ⟨by
              obtain ⟨x, m, c, e, rest⟩ := j.d.at_
              exact ⟨x, m, c, kr _ _ (fun z => by rw [z, hr] at e; cases e) e, rest⟩, fun x o n h => kr _ _ (fun z => by rw [z, nr] at h; cases h) (j.d.kp x o n h)⟩
            have hl5 := kr _ _ (fun z => by have := j.hl; rw [z, hr] at this; cases this) j.hl
            have hp5 : PlansAt F5 ys (onL (ss ++ [(Stp.bound n)])) := by
              rw [onL_snoc]
              exact j.hp.kp fun q c hq _ => kr _ _ (plan_nR (K := K) hq hr) hq
            refine ⟨_, rfl, .inl ⟨rfl, _, SqL.of hD5⟩, _, rfl, _, rfl, (by show 2 ≤ sizeLine; decide), fun t ht => ⟨D, _, _, rfl, rfl, up ht _ _ hD5, (by rw [rows5.len, sizeLine_eq]; omega), ?_⟩⟩
            exact ⟨ss ++ [(Stp.bound n)], _, l, ys, _, _, _, by rw [List.length_append, hss]; rfl, app_row d5 hR5 nD hD5 rows5 hl5 hp5 j.nl ht, rfl⟩
          · refine ifb_pos (by cases ys with | nil => exact absurd rfl hy | cons _ _ => rfl) ?_
            have ne : onL ss ≠ [] := fun z => hy (by have := j.hp.len; rw [z] at this; exact List.eq_nil_of_length_eq_zero this)
            refine ⟨_, rfl, _, rfl, _, rfl, l, _, rfl, SqL.of j.hl, fun l2 hl2 => gn ?_⟩
            have hp2 := j.hp.cut hy
            have nl2 : l2 ≠ D := fun z => by have := j.hD; rw [z, this] at hl2; cases hl2
            have j := j.same (up (o := .lst (cutV ys none (some (-1)))) hl2)
            have hp2 := hp2.same (up (o := .lst (cutV ys none (some (-1)))) hl2)
            have g2 := upd_same (H := upd G1 e0 (.lst [])) (a := l2) (o := .lst (cutV ys none (some (-1))))
            generalize upd (upd G1 e0 (.lst [])) l2 (.lst (cutV ys none (some (-1)))) = G2 at j hp2 g2 ⊢
            refine st_eq [some (.ref p), some (.int b), some (.ref r), some (.ref l2), some (.ref D), some (.int (0 + (i : Int))), some (.int way), some .non] rfl ?_
            obtain ⟨dx, t0, q0, zs, hr, _⟩ := j.hR.at_
            refine ⟨_, rfl, r, dx, _, rfl, hr, rfl, r, b, ss, rfl, j.hR, (by omega), ne, fun F5 kr hR5 => ?_⟩
            have hD5 := kr _ _ (fun z => by have := j.hD; rw [z, hr] at this; cases this) j.hD
            have rows5 := j.rows.kp j.at3 (fun z o _ n2 _ e => kr z o n2 e)
            have d5 : Drew p H F5 := ⟨by
              obtain ⟨x, m, c, e, rest⟩ := j.d.at_
              exact ⟨x, m, c, kr _ _ (fun z => by rw [z, hr] at e; cases e) e, rest⟩, fun x o n h => kr _ _ (fun z => by rw [z, nr] at h; cases h) (j.d.kp x o n h)⟩
            have hl5 := kr _ _ (fun z => by have := g2; rw [z, hr] at this; cases this) g2
            have hp5 : PlansAt F5 (cutV ys none (some (-1))) (onL (ss ++ [Stp.pop])) := by
              rw [onL_snoc]
              exact hp2.kp fun q c hq _ => kr _ _ (plan_nR (K := K) hq hr) hq
            refine ⟨_, rfl, .inl ⟨rfl, _, SqL.of hD5⟩, _, rfl, _, rfl, (by show 2 ≤ sizeLine; decide), fun t ht => ⟨D, _, _, rfl, rfl, up ht _ _ hD5, (by rw [rows5.len, sizeLine_eq]; omega), ?_⟩⟩
            exact ⟨ss ++ [Stp.pop], _, l2, (cutV ys none (some (-1))), _, _, _, by rw [List.length_append, hss]; rfl, app_row d5 hR5 nD hD5 rows5 hl5 hp5 nl2 ht, rfl⟩
        · refine ⟨_, rfl, _, rfl, _, rfl, p, b, rfl, j.d.at_, b0, b1, fun n1 F1 n10 n11 d1 => ?_⟩
          have j := j.drew d1
          refine ⟨_, rfl, _, rfl, p, b, rfl, j.d.at_, b0, b1, fun n2 F2 n20 n21 d2 => ?_⟩
          have j := j.drew d2
          refine ⟨_, rfl, p, 2000, rfl, j.d.at_, by decide, by decide, fun n3 F3 n30 n31 d3 => ⟨(by show 3 ≤ sizeLine; decide), fun q hq => ?_⟩⟩
          have j := j.drew d3
          have nq := j.d.ne hq
          have j := j.same (up (o := .lst [V.int n1, V.int n2, V.int n3]) hq)
          refine ⟨p, q, _, rfl, j.d.at_, nq, upd_same, (by show 0 < 3; decide), (by show 3 ≤ 1000; decide), fun i0 x F4 hx d4 => gn ?_⟩
          have j := j.drew d4
          obtain ⟨n, rfl, n0, nm⟩ : ∃ n : Int, x = .int n ∧ 0 ≤ n ∧ n ≤ 10 ^ 60 - 1 := by
            rcases i0 with _ | _ | _ | i0
            · exact ⟨n1, (Option.some.inj hx).symm, n10, n11⟩
            · exact ⟨n2, (Option.some.inj hx).symm, n20, n21⟩
            · exact ⟨n3, (Option.some.inj hx).symm, n30, by omega⟩
            · exact absurd hx (by simp)
          refine st_eq [some (.ref p), some (.int b), some (.ref r), some (.ref l), some (.ref D), some (.int (0 + (i : Int))), some (.int way), some (.int n)] rfl ?_
          obtain ⟨dx, t0, q0, zs, hr, _⟩ := j.hR.at_
          refine ⟨_, rfl, r, dx, _, rfl, hr, rfl, _, rfl, r, b, n, ss, rfl, j.hR, (by omega), n0, nm, fun F5 kr hR5 => ?_⟩
          have hD5 := kr _ _ (fun z => by have := j.hD; rw [z, hr] at this; cases this) j.hD
          have rows5 := j.rows.kp j.at3 (fun z o _ n2 _ e => kr z o n2 e)
          have d5 : Drew p H F5 := ⟨by
            obtain ⟨x, m, c, e, rest⟩ := j.d.at_
            exact ⟨x, m, c, kr _ _ (fun z => by rw [z, hr] at e; cases e) e, rest⟩, fun x o n h => kr _ _ (fun z => by rw [z, nr] at h; cases h) (j.d.kp x o n h)⟩
          have hl5 := kr _ _ (fun z => by have := j.hl; rw [z, hr] at this; cases this) j.hl
          have hp5 : PlansAt F5 ys (onL (ss ++ [(Stp.bound n)])) := by
            rw [onL_snoc]
            exact j.hp.kp fun q c hq _ => kr _ _ (plan_nR (K := K) hq hr) hq
          refine ⟨_, rfl, .inl ⟨rfl, _, SqL.of hD5⟩, _, rfl, _, rfl, (by show 2 ≤ sizeLine; decide), fun t ht => ⟨D, _, _, rfl, rfl, up ht _ _ hD5, (by rw [rows5.len, sizeLine_eq]; omega), ?_⟩⟩
          exact ⟨ss ++ [(Stp.bound n)], _, l, ys, _, _, _, by rw [List.length_append, hss]; rfl, app_row d5 hR5 nD hD5 rows5 hl5 hp5 j.nl ht, rfl⟩
    · rintro σ G ⟨ss, xs, l, ys, e5, e6, e7, hss, j, rfl⟩
      refine ⟨_, rfl, _, rfl, (by show 2 ≤ sizeLine; decide), fun t ht => ?_⟩
      have j := j.same (up (o := .tup [.ref r, .ref D]) ht)
      exact k t r D xs ss _ j.d upd_same j.hR (by omega) j.hD j.rows
end
/-! ### what repr can show -/
structure ShE (d : PyData) (D N : Nat) : Prop where
  sho : d.showable = true
  nod : d.hasDict = false
  dep : d.depth ≤ D
  len : d.shown.length ≤ N
theorem ShE.up {d : PyData} {D N D' N' : Nat} (h : ShE d D N) (h1 : D ≤ D') (h2 : N ≤ N') : ShE d D' N' := ⟨h.sho, h.nod, Nat.le_trans h.dep h1, Nat.le_trans h.len h2⟩
theorem ShE.int {i : Int} (h : i.natAbs < 10 ^ 90) : ShE (.int i) 1 91 := by
  refine ⟨decide_eq_true ?_, rfl, by simp [PyData.depth], ?_⟩
  · have h4 : i.natAbs < 2 ^ 300 := Nat.lt_of_lt_of_le h (by decide)
    exact Nat.lt_of_lt_of_le (PySem.Flt.log2_lt_of (by decide) h4) (by decide)
  · have := int_text_length_le10 (k := 90) (by decide) h
    have e : (Str.ofString (toString i)).length = (toString i : String).length := PySem.ofString_length _
    show (Str.ofString (toString i)).length ≤ 91
    omega
theorem ShE.bool (c : Bool) : ShE (.bool c) 1 5 := by
  cases c <;> exact ⟨rfl, rfl, by simp [PyData.depth], by decide⟩
theorem ShE.all {ds : List PyData} {D N : Nat} (h : ∀ d ∈ ds, ShE d D N) : PyData.showableAll ds = true ∧ PyData.hasDictAll ds = false ∧ PyData.depthAll ds ≤ D ∧ ((PyData.shownAll ds).map (·.length)).sum ≤ ds.length * N := by
  induction ds with
  | nil => exact ⟨rfl, rfl, Nat.zero_le _, by simp [PyData.shownAll]⟩
  | cons d ds ih =>
    obtain ⟨a1, a2, a3, a4⟩ := ih fun x hx => h x (.tail _ hx)
    obtain ⟨b1, b2, b3, b4⟩ := h d (.head _)
    refine ⟨?_, ?_, ?_, ?_⟩
    · simp only [PyData.showableAll, a1, b1, Bool.and_self]
    · simp only [PyData.hasDictAll, a2, b2, Bool.or_self]
    · simp only [PyData.depthAll]
      omega
    · rw [PyData.shownAll_cons, List.map_cons, List.sum_cons, List.length_cons, Nat.succ_mul]
      omega
theorem ShE.list {ds : List PyData} {D N : Nat} (h : ∀ d ∈ ds, ShE d D N) : ShE (.list ds) (D + 1) (ds.length * (N + 2) + 3) := by
  obtain ⟨a1, a2, a3, a4⟩ := ShE.all h
  refine ⟨by simp only [PyData.showable, a1], by simp only [PyData.hasDict, a2], by simp only [PyData.depth]; omega, ?_⟩
  show (listText (PyData.shownAll ds)).length ≤ _
  have := listText_len_le (PyData.shownAll ds)
  rw [PyData.shownAll_length] at this
  rw [Nat.mul_add]
  omega
theorem ShE.tup {ds : List PyData} {D N : Nat} (h : ∀ d ∈ ds, ShE d D N) : ShE (.tuple ds) (D + 1) (ds.length * (N + 2) + 3) := by
  obtain ⟨a1, a2, a3, a4⟩ := ShE.all h
  refine ⟨by simp only [PyData.showable, a1], by simp only [PyData.hasDict, a2], by simp only [PyData.depth]; omega, ?_⟩
  show (tupleText (PyData.shownAll ds)).length ≤ _
  have := tupleText_len_le (PyData.shownAll ds)
  rw [PyData.shownAll_length] at this
  rw [Nat.mul_add]
  omega
theorem ShE.ints {xs : List Int} (h : ∀ x ∈ xs, x.natAbs < 10 ^ 90) : ShE (.tuple (xs.map PyData.int)) 2 (xs.length * 93 + 3) := by
  have := ShE.tup (D := 1) (N := 91) (ds := xs.map PyData.int) (fun d hd => by
    obtain ⟨x, hx, rfl⟩ := List.mem_map.mp hd
    exact ShE.int (h x hx))
  rw [List.length_map] at this
  exact this
theorem dp_intsA {K : PySem.W.Frag} {H : Hp} : ∀ xs : List Int, DpAll K H (xs.map V.int) (xs.map PyData.int)
  | [] => .nil
  | x :: xs => .cons (.int x) (dp_intsA xs)
/-! ### what is due -/
noncomputable def fitsV (b : Int) (ss : List Stp) (k : Nat) : List V := (reachL b ss k).map fun z => if z.2 < 0 then V.non else .int z.2
noncomputable def dueV (b : Int) (ss : List Stp) : V := if leastL (reachL b ss ss.length) < 0 then .non else .int (leastL (reachL b ss ss.length))
theorem fits_no {b : Int} {ss : List Stp} {i : Nat} {s : Stp} (h : ss[i]? = some s) (e : endO s = none) : fitsV b ss (i + 1) = fitsV b ss i := by
  unfold fitsV
  rw [reachL_succ]
  have : reachAt b ss i = none := by
    unfold reachAt
    rw [h]
    cases s with
    | bound m => cases e
    | push a => rfl
    | pop => rfl
  rw [this]
  simp
theorem fits_yes {b m : Int} {ss : List Stp} {i : Nat} (h : ss[i]? = some (.bound m)) : fitsV b ss (i + 1) = fitsV b ss i ++ [gwV b (onL (ss.take i)) m] := by
  unfold fitsV
  rw [reachL_succ]
  have : reachAt b ss i = some ((i : Int), gwI b (onL (ss.take i)) m) := by
    unfold reachAt
    rw [h]
  rw [this]
  simp only [Option.toList_some, List.map_append, List.map_cons, List.map_nil]
  rfl
theorem on_bound {m : Int} {ss : List Stp} {i : Nat} (h : ss[i]? = some (.bound m)) : onL (ss.take (i + 1)) = onL (ss.take i) := by
  rw [List.take_succ, h]
  show onL (ss.take i ++ [.bound m]) = _
  rw [onL_snoc]
  all_goals rfl
theorem fitsV_len (b : Int) (ss : List Stp) (k : Nat) : (fitsV b ss k).length ≤ k := by
  unfold fitsV
  rw [List.length_map]
  exact reachL_len b ss k
theorem least_neg {ps : List (Int × Int)} : leastL ps < 0 ↔ ∃ z ∈ ps, z.2 < 0 := by
  obtain ⟨g1, g2, g3⟩ := least_fold (ps.map (·.2)) (10 ^ 60 - 1)
  constructor
  · intro h
    rcases g3 with g3 | g3
    · unfold leastL at h
      rw [g3] at h
      exact absurd h (by decide)
    · obtain ⟨z, hz, e⟩ := List.mem_map.mp g3
      refine ⟨z, hz, ?_⟩
      unfold leastL at h
      rw [← e] at h
      exact h
  · rintro ⟨z, hz, h⟩
    have := g2 z.2 (List.mem_map.mpr ⟨z, hz, rfl⟩)
    unfold leastL
    omega
theorem fits_ints {b : Int} {ss : List Stp} (h : ¬ leastL (reachL b ss ss.length) < 0) : fitsV b ss ss.length = ((reachL b ss ss.length).map (·.2)).map V.int := by
  unfold fitsV
  rw [List.map_map]
  refine List.map_congr_left fun z hz => ?_
  have : ¬ z.2 < 0 := fun c => h (least_neg.mpr ⟨z, hz, c⟩)
  rw [if_neg this]
  all_goals rfl
structure R82 (K : PySem.W.Frag) (p r D : Addr) (H : Hp) (b : Int) (ss : List Stp) (xs : List V) (G : Hp) : Prop where
  d : Drew p H G
  hR : RoadAt K G r b ss
  hD : G D = some (.lst xs)
  rows : RowsAt D G xs ss
theorem R82.at3 {K : PySem.W.Frag} {p r D : Addr} {H : Hp} {b : Int} {ss : List Stp} {xs : List V} {G : Hp} (j : R82 K p r D H b ss xs G) : At3 K p r D G := by
  obtain ⟨dx, t, q, zs, h1, _⟩ := j.hR.at_
  exact ⟨j.d.at_, ⟨dx, _, h1⟩, ⟨xs, j.hD, j.rows.refs⟩⟩
theorem R82.same {K : PySem.W.Frag} {p r D : Addr} {H : Hp} {b : Int} {ss : List Stp} {xs : List V} {G F : Hp} (j : R82 K p r D H b ss xs G) (s : Same G F) : R82 K p r D H b ss xs F :=
  ⟨j.d.same s, j.hR.same s, s _ _ j.hD, j.rows.kp j.at3 (fun z o _ _ _ e => s z o e)⟩
theorem R82.drew {K : PySem.W.Frag} {p r D : Addr} {H : Hp} {b : Int} {ss : List Stp} {xs : List V} {G F : Hp} (j : R82 K p r D H b ss xs G) (d : Drew p G F) : R82 K p r D H b ss xs F := by
  have hp := j.d.at_
  obtain ⟨_, _, _, e, _⟩ := id hp
  exact ⟨j.d.trans d, j.hR.kp e d.kp, d.kp _ _ (refs_np j.hD j.rows.refs hp) j.hD, j.rows.kp j.at3 (fun z o n _ _ e => d.kp z o n e)⟩
theorem in_no {b : Int} {ss : List Stp} : inV .non (fitsV b ss ss.length) = decide (leastL (reachL b ss ss.length) < 0) := by
  unfold inV fitsV
  rw [List.any_map]
  by_cases h : leastL (reachL b ss ss.length) < 0
  · rw [decide_eq_true h]
    obtain ⟨z, hz, n⟩ := least_neg.mp h
    refine List.any_eq_true.mpr ⟨z, hz, ?_⟩
    show eqV (if z.2 < 0 then V.non else .int z.2) .non = true
    rw [if_pos n]
    all_goals rfl
  · rw [decide_eq_false h]
    refine List.any_eq_false.mpr fun z hz => ?_
    have n : ¬ z.2 < 0 := fun c => h (least_neg.mpr ⟨z, hz, c⟩)
    show ¬ eqV (if z.2 < 0 then V.non else .int z.2) .non = true
    rw [if_neg n]
    exact Bool.false_ne_true
theorem fits_flat {b : Int} {ss : List Stp} {k : Nat} : (fitsV b ss k).all flatV = true := by
  unfold fitsV
  rw [List.all_map]
  refine List.all_eq_true.mpr fun z _ => ?_
  show flatV (if z.2 < 0 then V.non else .int z.2) = true
  split <;> rfl
theorem nxt82 {D σ H} (k : D.nx σ H) : tNext D σ H := k
theorem trailL_small {b n : Int} {ss : List Stp} (rb : RoadB b ss) (b0 : 2 ≤ b) (b1 : b ≤ 256) (n0 : 0 ≤ n) (n1 : n ≤ 10 ^ 60 - 1) (k : Nat) : ∀ x ∈ trailL b ss n k, x.natAbs < 10 ^ 90 := fun x hx => by
  obtain ⟨i, _, rfl⟩ := List.mem_map.mp hx
  have e := trS_on (rb.take i) n
  have so := (rb.take i).stk b0 b1
  have s6 := so.len
  have n2 : n < 2 ^ 200 := Int.lt_of_le_of_lt n1 (by decide)
  have bd := grS_pow b0 (onL (ss.take i)) so.ok (show 12 ≤ 200 by decide) n0 n2
  rw [e]
  have h2 : (2 : Int) ^ (200 + 8 * (onL (ss.take i)).length) ≤ 2 ^ 248 := pow_mono (by decide) (by omega)
  have h3 : (2 : Int) ^ 248 < 10 ^ 90 := by decide
  show (grS b (onL (ss.take i)) n).natAbs < 10 ^ 90
  omega
noncomputable def szL (b : Int) (ss : List Stp) (n : Int) (k : Nat) : List Int := (List.range k).map fun i => grS b (onL (ss.take (i + 1))) n
theorem szL_succ (b : Int) (ss : List Stp) (n : Int) (k : Nat) : szL b ss n (k + 1) = szL b ss n k ++ [grS b (onL (ss.take (k + 1))) n] := by
  unfold szL
  rw [List.range_succ, List.map_append]
  all_goals rfl
theorem szL_len (b : Int) (ss : List Stp) (n : Int) (k : Nat) : (szL b ss n k).length = k := by
  unfold szL
  rw [List.length_map, List.length_range]
theorem trail_sz {b n : Int} {ss : List Stp} (rb : RoadB b ss) : ∀ k : Nat, trailL b ss n (k + 1) = n :: szL b ss n k
  | 0 => by
    rw [trailL_succ]
    all_goals rfl
  | k + 1 => by
    rw [trailL_succ, trail_sz rb k, szL_succ, trS_on (rb.take (k + 1))]
    all_goals rfl
def spRight82 (K : PySem.W.Frag) : Sp := fun vs H Q _ => ∃ (p : Addr), vs = [.ref p] ∧ PurseAt H p ∧ ∀ H', Drew p H H' → Q (.bl true) H'
section
variable {P : Program} {w : World} {K : PySem.W.Frag} {mg : Str → Option Value} {base : Heap}
theorem ok_L_right (T : Tx w K mg) : PromG P w K mg base 12 "_law_right" s_L_right ["_law_bowl_here"] (spRight82 K) := by
  refine PromG.of T.d_L_right sc_L_right (fun vs H Q E h => ?_) (fun _ _ _ _ _ _ us hl => match us, hl with | [_], _ => rfl) (fun f cdv A outer s H vs Q E hr hgd h => ?_)
  · obtain ⟨p, rfl, _⟩ := h
    rfl
  · obtain ⟨p, rfl, hp, k⟩ := h
    refine ⟨_, (pss_cons (ps_for PassesOwn.never (by rfl) (pi_range1 (by rfl) T.b_range (pa_cons pe_int pa_nil)) (pg_name (i := 1) sc_L_right.nd rfl (Or.inl rfl)) (pss_cons (ps_set (i := 2) sc_L_right.nd rfl (Or.inr rfl) (pe_callP (ok_L_root T) (hr.mono (by decide)) (by rfl) pass0 (pa_cons (pv 0) pa_nil)))
      (pss_cons (ps_asg (pe_callP (ok_L_walked T) (hr.mono (by decide)) (by rfl) pass0 (pa_cons (pv 0) (pa_cons (pv 2) pa_nil))) (pg_tup rfl (pgs_cons (pg_name (i := 3) sc_L_right.nd rfl (Or.inl rfl)) (pgs_cons (pg_name (i := 4) sc_L_right.nd rfl (Or.inl rfl)) pgs_nil))))
      (pss_cons (ps_setLc (i := 5) (own := [("_law_on", 8), ("_law_end", 9)]) (g := (gTup K 2 (gCons (gName 8) (gCons (gName 9) gNil)))) (by rfl) sc_L_right.nd rfl rfl (sw_true rfl rfl rfl (by decide +kernel)) (pi_list (pv 4)) (blkOk_by (own := [("_law_on", 8), ("_law_end", 9)]) (N := ["_law_bowl_here", "_law_turn", "_law_root_here", "_law_road", "_law_rows_here", "_law_fits", "_law_due", "_law_n", "_law_on", "_law_end"]) (sc := defScope s_L_right) (by decide +kernel)) (fun _ _ _ _ _ => (pg_tup rfl (pgs_cons (pg_name (i := 8) sc_L_right.nd rfl (Or.inl rfl)) (pgs_cons (pg_name (i := 9) sc_L_right.nd rfl (Or.inl rfl)) pgs_nil)))) (fun _ _ _ _ _ => pts_one (pt_cmpR op_notN (pv 9) pe_non (nomark _))) (fun _ _ _ _ _ => (pe_callP (ok_payload T) (hr.mono (by decide)) (by rfl) pass0 (pa_cons (pe_callP (ok_L_stack T) (hr.mono (by decide)) (by rfl) pass0 (pa_cons (pv 2) (pa_cons (pv 8) pa_nil))) (pa_cons (pv 9) pa_nil)))))
      (pss_cons (ps_set (i := 6) sc_L_right.nd rfl (Or.inl rfl) (pe_weak (pe_ifExp (pt_cmpR op_in_seq pe_non (pv 5) (by rfl)) pe_non (pe_callB (cr_min rfl) (by rfl) T.b_min (by decide +kernel) (pa_cons (pe_op op_cat (pe_lst (pa_cons (pe_op op_sub (pe_op op_pow pe_int pe_int) pe_int) pa_nil)) (pv 5)) pa_nil)))))
      (pss_cons (ps_if (PW.pt (pw_or (pt_cmpR op_ne (pe_callB cr_repr (by rfl) T.b_repr (by decide +kernel) (pa_cons (pe_methP0 (ok_Road_greatest T) (hr.mono (by decide)) pass0 (pv 3)) pa_nil)) (pe_callB cr_repr (by rfl) T.b_repr (by decide +kernel) (pa_cons (pv 6) pa_nil)) (nomark _)) (pw_or1 (pt_cmp (pc_neI (pe_callB (cr_lenO (ok_Road___len__ T) (hr.mono (by decide)) pass0) (by rfl) T.b_len (by decide +kernel) (pa_cons (pv 3) pa_nil)) (pe_callB call_len_seq (by rfl) T.b_len (by decide +kernel) (pa_cons (pv 4) pa_nil))))))) (pss_one (ps_ret pe_bl)) pss_nil)
      (pss_cons (ps_if (pt_cmpR (op_neO T.st_Stack (ok_Stack___eq__ T) (hr.mono (by decide)) pass0) (pe_fld (pv 3) rfl) (pe_callP (ok_L_stack T) (hr.mono (by decide)) (by rfl) pass0 (pa_cons (pv 2) (pa_cons (pe_weak (pe_ifExp (pt_cmpR (op_neE hr.units) (pv 4) (pe_lst pa_nil) (nomark _)) (pe_ix ix_tup (pe_ix ix_list (pv 4) (pe_un un_neg pe_int) (fun _ _ => rfl)) pe_int (fun _ _ => rfl)) (pe_lst pa_nil))) pa_nil))) (nomark _)) (pss_one (ps_ret pe_bl)) pss_nil)
      (pss_one (ps_for PassesOwn.never (by rfl) (pi_list (pe_op op_cat (pe_lst (pa_cons pe_int (pa_cons (pe_callP (ok_L_far T) (hr.mono (by decide)) (by rfl) pass0 (pa_cons (pv 0) (pa_cons (pv 2) pa_nil))) (pa_cons (pe_callP (ok_L_scoop T) (hr.mono (by decide)) (by rfl) pass0 (pa_cons (pv 0) (pa_cons pe_int pa_nil))) pa_nil)))) (pe_weak (pe_ifExp (pt_cmpR op_isN (pv 6) pe_non (nomark _)) (pe_lst pa_nil) (pe_lst (pa_cons (pv 6) (pa_cons (pe_op op_add (pv 6) pe_int) pa_nil))))))) (pg_name (i := 7) sc_L_right.nd rfl (Or.inr rfl)) (pss_one (ps_if (pt_cmp (pc_lt (pv 7) (pe_op op_pow pe_int pe_int))) (pss_cons (ps_if (pt_cmpR op_ne (pe_callB (cr_reprD hgd hr.units) (by rfl) T.b_repr (by decide +kernel) (pa_cons (pe_methP (ok_Road_sizes T) (hr.mono (by decide)) pass0 (pv 3) (pa_cons (pv 7) pa_nil)) pa_nil)) (pe_callB (cr_reprD hgd hr.units) (by rfl) T.b_repr (by decide +kernel) (pa_cons (pe_callTy call_tuple_of (by rfl) T.b_tuple (by decide +kernel) (pa_cons (pe_op op_cat (pe_lst (pa_cons (pv 7) pa_nil)) (pe_lc (own := [("_law_on", 8), ("_law_end", 9)]) (g := (gTup K 2 (gCons (gName 8) (gCons (gName 9) gNil)))) (tt := tYes) (by rfl) sc_L_right.nd (pi_list (pv 4)) (blkOk_by (own := [("_law_on", 8), ("_law_end", 9)]) (N := ["_law_bowl_here", "_law_turn", "_law_root_here", "_law_road", "_law_rows_here", "_law_fits", "_law_due", "_law_n", "_law_on", "_law_end"]) (sc := defScope s_L_right) (by decide +kernel)) (fun _ _ _ _ _ => (pg_tup rfl (pgs_cons (pg_name (i := 8) sc_L_right.nd rfl (Or.inl rfl)) (pgs_cons (pg_name (i := 9) sc_L_right.nd rfl (Or.inl rfl)) pgs_nil)))) (fun _ _ _ _ _ => pts_nil) (fun _ _ _ _ _ => (pe_callP (ok_L_size T) (hr.mono (by decide)) (by rfl) pass0 (pa_cons (pv 2) (pa_cons (pv 8) (pa_cons (pv 7) pa_nil))))))) pa_nil)) pa_nil)) (nomark _)) (pss_one (ps_ret pe_bl)) pss_nil)
      (pss_one (ps_if (pt_cmpR op_ne (pe_callB cr_repr (by rfl) T.b_repr (by decide +kernel) (pa_cons (pe_methP (ok_Road_fits T) (hr.mono (by decide)) pass0 (pv 3) (pa_cons (pv 7) pa_nil)) pa_nil)) (pe_callB cr_repr (by rfl) T.b_repr (by decide +kernel) (pa_cons (pe_and (pe_cmpR op_notN (pv 6) pe_non (nomark _)) (pe_one (pe_cmp (pc_le (pv 7) (pv 6))))) pa_nil)) (nomark _)) (pss_one (ps_ret pe_bl)) pss_nil))) pss_nil)))))))))))
      (pss_one (ps_ret pe_bl))), ?_⟩
    refine ⟨3, rfl, by decide, by decide, for_range (lo := 0) (n := 3) (fun i σ G => Drew p H G ∧ ∃ e1 e2 e3 e4 e5 e6 e7 e8 e9 : Option V, σ = [some (.ref p), e1, e2, e3, e4, e5, e6, e7, e8, e9]) ⟨Drew.refl hp, none, none, none, none, none, none, none, none, none, rfl⟩ ?_ ?_⟩
    rotate_left
    · rintro σ G ⟨dG, e1, e2, e3, e4, e5, e6, e7, e8, e9, rfl⟩
      exact k G dG
    rintro i σ G hi ⟨dG, e1, e2, e3, e4, e5, e6, e7, e8, e9, rfl⟩
    refine gn ?_
    refine st_eq [some (.ref p), some (.int (0 + (i : Int))), e2, e3, e4, e5, e6, e7, e8, e9] rfl ?_
    refine ⟨_, rfl, p, rfl, dG.at_, fun b G1 b0 b1 d1 => gn ?_⟩
    refine st_eq [some (.ref p), some (.int (0 + (i : Int))), some (.int b), e3, e4, e5, e6, e7, e8, e9] rfl ?_
    have d1 := dG.trans d1
    refine ⟨_, rfl, _, rfl, p, b, rfl, d1.at_, b0, b1, fun t r D xs ss G2 d2 ht hR hlen hD rows => ?_⟩
    have j : R82 K p r D H b ss xs G2 := ⟨d1.trans d2, hR, hD, rows⟩
    have rb := hR.rb
    have hrl := rows.len
    refine ⟨t, _, rfl, SqT.of ht, rfl, _, _, rfl, _, _, rfl, rfl, ?_⟩
    refine st_eq [some (.ref p), some (.int (0 + (i : Int))), some (.int b), some (.ref r), some (.ref D), e5, e6, e7, e8, e9] rfl ?_
    clear d1 d2 dG ht hR hD rows
    refine ⟨_, rfl, D, rfl, ⟨_, SqL.of j.hD⟩, fun L hL => ?_⟩
    refine lc_list (K := K) (a := D) (xs := xs) (Pv := fun k G' => Same G2 G' ∧ G' L = some (.lst (fitsV b ss k))) ⟨up hL, upd_same⟩ (fun k G' _ h => SqL.of (h.1 _ _ j.hD)) ?_ ?_
    · rintro k x G' hx ⟨hs, gL⟩
      have hk : k < xs.length := (List.getElem?_eq_some_iff.mp hx).1
      have jx := j.same hs
      have hks : k < ss.length := by omega
      obtain ⟨s0, hs0⟩ : ∃ s0, ss[k]? = some s0 := ⟨_, List.getElem?_eq_getElem hks⟩
      obtain ⟨x2, hx2, u, l, ys, rfl, hu, nl, hl, hpl⟩ := jx.rows.at_ k s0 hs0
      rw [hx2] at hx
      obtain rfl := Option.some.inj hx
      have so := (rb.take (k + 1)).stk b0 b1
      refine ⟨u, _, rfl, SqT.of hu, rfl, _, _, rfl, _, _, rfl, rfl, rfl, _, rfl, rfl, _, rfl, ?_⟩
      cases s0 with
      | push a => exact ifb_neg rfl ⟨hs, by rw [fits_no hs0 rfl]; exact gL⟩
      | pop => exact ifb_neg rfl ⟨hs, by rw [fits_no hs0 rfl]; exact gL⟩
      | bound m =>
        have mb : 0 ≤ m ∧ m ≤ 10 ^ 60 - 1 := rb.at_ hs0
        have gy := fits_yes (b := b) hs0
        rw [← on_bound hs0] at gy
        refine ifb_pos rfl ⟨_, rfl, _, rfl, l, b, ys, _, rfl, hl, hpl, so, fun q F nq sF st => ⟨_, rfl, q, b, m, _, rfl, st, so, mb.1, mb.2, fun ig => ⟨_, sF _ _ gL, ?_, fun y o e => ?_, ?_⟩⟩⟩
        · have := fitsV_len b ss k
          rw [sizeLine_eq]
          omega
        · rw [upd_ne (ne_of_none e hL)]
          exact sF _ _ (hs _ _ e)
        · rw [upd_same, gy]
    rintro G3 ⟨s3, gL⟩
    rw [hrl] at gL
    have j := j.same s3
    clear s3 hL
    refine gn ?_
    refine st_eq [some (.ref p), some (.int (0 + (i : Int))), some (.int b), some (.ref r), some (.ref D), some (.ref L), e6, e7, e8, e9] rfl ?_
    refine ⟨fun v G' => v = dueV b ss ∧ Same G3 G', ?_, ?_⟩
    rotate_left
    · refine ⟨_, rfl, L, _, rfl, .inl (SqL.of gL), rfl, fits_flat, _, rfl, ?_⟩
      rw [if_neg Bool.false_ne_true, in_no]
      refine ifd (fun c => ?_) (fun c => ?_)
      · have c : leastL (reachL b ss ss.length) < 0 := c
        exact ⟨(if_pos c).symm, Same.refl _⟩
      · have c : ¬ leastL (reachL b ss ss.length) < 0 := c
        refine ⟨_, _, rfl, rfl, ⟨by decide, by decide, by decide⟩, _, _, rfl, rfl, (by show 1 ≤ sizeLine; decide), fun e1 he1 => ⟨_, rfl, ?_⟩⟩
        rw [fits_ints c] at gL
        refine ⟨e1, L, _, _, rfl, rfl, upd_same, up he1 _ _ gL, ?_, fun e2 he2 => ?_⟩
        · have := reachL_len b ss ss.length
          simp
          rw [sizeLine_eq]
          omega
        have el : [V.int (10 ^ 60 - 1)] ++ ((reachL b ss ss.length).map (·.2)).map V.int = ((10 ^ 60 - 1) :: (reachL b ss ss.length).map (·.2)).map V.int := by simp
        refine ⟨e2, (10 ^ 60 - 1) :: (reachL b ss ss.length).map (·.2), rfl, SqL.of (by rw [← el]; exact upd_same), by simp, fun m hm hle => ⟨?_, (up he1).trans (up he2)⟩⟩
        have eq := leastL_eq hm hle
        subst eq
        exact (if_neg c).symm
    rintro v G4 ⟨rfl, s4⟩
    have j := j.same s4
    clear s4 gL
    refine gn ?_
    refine st_eq [some (.ref p), some (.int (0 + (i : Int))), some (.int b), some (.ref r), some (.ref D), some (.ref L), some (dueV b ss), e7, e8, e9] rfl ?_
    obtain ⟨dx, t0, q0, zs, hr, h2, h3, h4⟩ := j.hR.at_
    have lr : -1 ≤ leastL (reachL b ss ss.length) ∧ leastL (reachL b ss ss.length) ≤ 10 ^ 60 - 1 → ∃ zt, flatShown (dueV b ss) = some zt := fun h => by
      unfold dueV
      generalize leastL (reachL b ss ss.length) = m at h ⊢
      split
      · exact ⟨_, rfl⟩
      · refine ⟨_, if_pos ?_⟩
        exact log2_small (by omega) (Int.lt_of_le_of_lt h.2 (by decide))
    refine ⟨_, rfl, r, dx, _, rfl, hr, rfl, r, ss, b, rfl, j.hR, fun G5 ag s5 => ?_⟩
    have rg := least_range ag
    have ft : ∀ n, 0 ≤ n → n ≤ 10 ^ 60 - 1 → (fitsP b ss n ↔ n ≤ leastL (reachL b ss ss.length)) := fun n n0 n1 => least_fits ag n0 n1
    obtain ⟨zt, hz⟩ := lr rg
    have j := j.same s5
    have hr := s5 _ _ hr
    have h4 := h4.same s5
    refine ⟨dueV b ss, zt, rfl, hz, _, rfl, dueV b ss, zt, rfl, hz, ?_⟩
    refine ⟨rfl, _, rfl, ifn (fun y => absurd rfl y) (fun _ => ?_)⟩
    refine ⟨_, rfl, r, dx, _, rfl, hr, r, b, ss, rfl, j.hR, _, rfl, Int.natCast_nonneg _, (by omega), _, rfl, D, xs, rfl, .inl (SqL.of j.hD), _, _, rfl, rfl, _, rfl, ifn (fun y => absurd (by rw [hrl]) y) (fun _ => nxt82 ?_)⟩
    have so := rb.stk b0 b1
    refine ⟨_, rfl, r, _, dx, _, _, rfl, hr, T.cl_Road, T.na_Road_stack, rfl, ?_⟩
    refine ⟨_, rfl, fun v G' => ∃ (l : Addr) (ys : List V), v = .ref l ∧ G' l = some (.lst ys) ∧ PlansAt G' ys (onL ss) ∧ Same G5 G', ?_, ?_⟩
    rotate_left
    · refine ⟨_, rfl, Nat.zero_le _, fun e0 he0 => ?_⟩
      have s6 := up (o := .lst []) he0
      refine ⟨D, e0, xs, rfl, rfl, SqL.of (s6 _ _ j.hD), SqL.of upd_same, _, rfl, ?_⟩
      have j := j.same s6
      by_cases hx : xs = []
      · refine ifb_neg (by rw [hx]; rfl) ⟨Nat.zero_le _, fun l hl => ⟨l, [], rfl, upd_same, ?_, s6.trans (up hl)⟩⟩
        have : ss = [] := List.eq_nil_of_length_eq_zero (by rw [← hrl, hx]; rfl)
        rw [this]
        exact .nil
      · refine ifb_pos (by cases xs with | nil => exact absurd rfl hx | cons _ _ => rfl) ?_
        have hn : 0 < ss.length := by rw [← hrl]; exact List.length_pos_iff.mpr hx
        obtain ⟨sl, hsl⟩ : ∃ sl, ss[ss.length - 1]? = some sl := ⟨_, List.getElem?_eq_getElem (by omega)⟩
        obtain ⟨x2, hx2, u, l, ys, rfl, hu, nl, hl, hpl⟩ := j.rows.at_ _ sl hsl
        rw [show ss.length - 1 + 1 = ss.length by omega, List.take_length] at hpl
        have ex : xs = xs.dropLast ++ [V.ref u] := by
          have e := List.dropLast_concat_getLast hx
          rw [← hrl, ← List.getLast?_eq_getElem?, List.getLast?_eq_some_getLast hx] at hx2
          rw [← Option.some.inj hx2]
          exact e.symm
        have hD := j.hD
        rw [ex] at hD
        exact ⟨_, rfl, _, rfl, D, _, _, _, rfl, rfl, SqL.of hD, atI_last1, u, _, _, _, rfl, rfl, SqT.of hu, at_of (j := 0) rfl rfl, l, ys, rfl, hl, hpl, s6⟩
    rintro v G6 ⟨l, ys, rfl, hl, hpl, s6⟩
    refine ⟨l, b, ys, onL ss, rfl, hl, hpl, so, fun q F nq sF st => ?_⟩
    have sx := s6.trans sF
    have h5 := h4.same sx
    obtain ⟨dx1, t1, z1, g1, _⟩ := id h5
    obtain ⟨dx2, t2, z2, g2, _⟩ := id st
    refine ⟨q0, q, dx1, _, dx2, _, rfl, rfl, g1, g2, q0, b, onL ss, .ref q, true, rfl, h5, .inl ⟨q, b, onL ss, rfl, st, by simp⟩, _, rfl, _, rfl, iteF (nxt82 ?_)⟩
    have j := j.same sx
    clear sx s6 sF h5 h4 hl hpl g1 g2 st nq hr hz lr
    refine ⟨_, rfl, _, rfl, p, b, rfl, j.d.at_, b0, b1, fun n1 F1 n10 n11 d1 => ?_⟩
    have j := j.drew d1
    refine ⟨_, rfl, p, 2000, rfl, j.d.at_, by decide, by decide, fun n2 F2 n20 n21 d2 => ⟨(by show 3 ≤ sizeLine; decide), fun a1 ha1 => ?_⟩⟩
    have j := j.drew d2
    have j := j.same (up (o := .lst [V.int 0, V.int n1, V.int n2]) ha1)
    have h1 := upd_same (H := F2) (a := a1) (o := .lst [V.int 0, V.int n1, V.int n2])
    generalize upd F2 a1 (.lst [V.int 0, V.int n1, V.int n2]) = F3 at j h1 ⊢
    clear d1 d2 ha1
    refine ⟨fun v G' => ∃ (a : Addr) (ns : List Int), v = .ref a ∧ G' a = some (.lst (ns.map V.int)) ∧ (∀ n ∈ ns, 0 ≤ n) ∧ ns.length ≤ 2 ∧ Same F3 G', ?_, ?_⟩
    rotate_left
    · refine ⟨_, rfl, rfl, _, rfl, ?_⟩
      by_cases c : leastL (reachL b ss ss.length) < 0
      · have e : dueV b ss = .non := if_pos c
        exact ifb_pos (by rw [e]; rfl) ⟨Nat.zero_le _, fun a ha => ⟨a, [], rfl, upd_same, fun _ h => (by cases h), by decide, up ha⟩⟩
      · have e : dueV b ss = .int (leastL (reachL b ss ss.length)) := if_neg c
        refine ifb_neg (by rw [e]; rfl) ⟨_, rfl, _, rfl, _, 1, e, rfl, (by show 2 ≤ sizeLine; decide), fun a ha => ⟨a, [leastL (reachL b ss ss.length), leastL (reachL b ss ss.length) + 1], rfl, by rw [upd_same, e]; rfl, fun z h => ?_, Nat.le_refl _, up ha⟩⟩
        simp only [List.mem_cons, List.not_mem_nil, or_false] at h
        omega
    rintro v F4 ⟨a2, ns, rfl, h2, nn, nl, s4⟩
    have j := j.same s4
    refine ⟨a1, a2, _, _, rfl, rfl, s4 _ _ h1, h2, (by rw [List.length_map, sizeLine_eq]; show 3 + ns.length ≤ _; omega), fun A hA => ?_⟩
    obtain ⟨NS, eN, hN⟩ : ∃ NS : List Int, [V.int 0, V.int n1, V.int n2] ++ ns.map V.int = NS.map V.int ∧ ∀ n ∈ NS, 0 ≤ n := by
      refine ⟨[0, n1, n2] ++ ns, by rw [List.map_append]; rfl, fun n hn => ?_⟩
      rcases List.mem_append.mp hn with hn | hn
      · simp only [List.mem_cons, List.not_mem_nil, or_false] at hn
        rcases hn with rfl | rfl | rfl <;> first | exact Int.le_refl _ | assumption
      · exact nn n hn
    rw [eN]
    have j := j.same (up (o := .lst (NS.map V.int)) hA)
    have hA := upd_same (H := F4) (a := A) (o := .lst (NS.map V.int))
    generalize upd F4 A (.lst (NS.map V.int)) = F5 at j hA ⊢
    clear h1 h2 s4
    refine ⟨A, rfl, ⟨_, SqL.of hA⟩, for_list (K := K) (a := A) (xs := NS.map V.int) (fun k σ G => Same F5 G ∧ ∃ e7 e8 e9 : Option V, σ = [some (.ref p), some (.int (0 + (i : Int))), some (.int b), some (.ref r), some (.ref D), some (.ref L), some (dueV b ss), e7, e8, e9]) ⟨Same.refl _, _, _, _, rfl⟩ (fun k σ G _ h => SqL.of (h.1 _ _ hA)) ?_ ?_⟩
    rotate_left
    · rintro σ G ⟨hs, e7, e8, e9, rfl⟩
      exact ⟨(j.same hs).d, _, _, _, _, _, _, _, _, _, rfl⟩
    rintro k0 x σ G hx ⟨hs, e7, e8, e9, rfl⟩
    obtain ⟨n, rfl, mn⟩ : ∃ n : Int, x = .int n ∧ n ∈ NS := by
      obtain ⟨z, hz, ez⟩ := List.mem_map.mp (List.mem_of_getElem? hx)
      exact ⟨z, ez.symm, hz⟩
    have n0 := hN n mn
    have j := j.same hs
    clear hx mn hN
    refine gn ?_
    refine st_eq [some (.ref p), some (.int (0 + (i : Int))), some (.int b), some (.ref r), some (.ref D), some (.ref L), some (dueV b ss), some (.int n), e8, e9] rfl ?_
    refine ⟨_, rfl, _, _, rfl, rfl, ⟨by decide, by decide, by decide⟩, _, _, rfl, rfl, _, rfl, ifd (fun c => ?_) (fun c => nxt82 ⟨hs, _, _, _, rfl⟩)⟩
    have c : n < 10 ^ 60 := c
    have nm : n ≤ 10 ^ 60 - 1 := by omega
    obtain ⟨dx, t0, q0, zs, hr, _⟩ := j.hR.at_
    have small := trailL_small rb b0 b1 n0 nm (ss.length + 1)
    have shT := ShE.ints small
    rw [trailL_len] at shT
    have shl := shT.len
    have shd := shT.dep
    refine ⟨_, rfl, r, dx, _, rfl, hr, rfl, _, rfl, r, ss, n, b, rfl, j.hR, n0, nm, fun q G1 nq s1 hq => ?_⟩
    refine ⟨q, .tuple ((trailL b ss n (ss.length + 1)).map PyData.int), rfl, .tup (SqT.of hq) (dp_intsA _), shT.sho, shT.nod, by omega, by rw [sizeLine_eq]; omega, ?_⟩
    have j := j.same s1
    refine ⟨_, rfl, (by show 1 ≤ sizeLine; decide), fun a1 ha1 => ⟨_, rfl, D, rfl, ⟨_, SqL.of (up ha1 _ _ j.hD)⟩, fun L2 hL2 => ?_⟩⟩
    have j := j.same (up (o := .lst [V.int n]) ha1)
    have h1 := upd_same (H := G1) (a := a1) (o := .lst [V.int n])
    have s12 := s1.trans (up (o := .lst [V.int n]) ha1)
    generalize upd G1 a1 (.lst [V.int n]) = G2 at j hL2 h1 s12 ⊢
    refine lc_list (K := K) (a := D) (xs := xs) (Pv := fun k G' => Same G2 G' ∧ G' L2 = some (.lst ((szL b ss n k).map V.int))) ⟨up hL2, upd_same⟩ (fun k G' _ h => SqL.of (h.1 _ _ j.hD)) ?_ ?_
    · rintro k x G' hx ⟨hs2, gL⟩
      have hk : k < xs.length := (List.getElem?_eq_some_iff.mp hx).1
      have jx := j.same hs2
      have hks : k < ss.length := by omega
      obtain ⟨s0, hs0⟩ : ∃ s0, ss[k]? = some s0 := ⟨_, List.getElem?_eq_getElem hks⟩
      obtain ⟨x2, hx2, u, l, ys, rfl, hu, nl, hl, hpl⟩ := jx.rows.at_ k s0 hs0
      rw [hx2] at hx
      obtain rfl := Option.some.inj hx
      have so := (rb.take (k + 1)).stk b0 b1
      refine ⟨u, _, rfl, SqT.of hu, rfl, _, _, rfl, _, _, rfl, rfl, rfl, _, rfl, _, rfl, _, rfl, l, b, n, ys, _, rfl, hl, hpl, so, n0, nm, fun F sF => ⟨_, sF _ _ gL, ?_, fun y o e => ?_, ?_⟩⟩
      · rw [List.length_map, szL_len, sizeLine_eq]
        omega
      · rw [upd_ne (ne_of_none e hL2)]
        exact sF _ _ (hs2 _ _ e)
      · rw [upd_same, szL_succ, List.map_append]
        all_goals rfl
    rintro G3 ⟨s3, gL⟩
    rw [hrl] at gL
    have j := j.same s3
    have et : [V.int n] ++ (szL b ss n ss.length).map V.int = (trailL b ss n (ss.length + 1)).map V.int := by
      rw [trail_sz rb]
      all_goals rfl
    refine ⟨a1, L2, _, _, rfl, rfl, s3 _ _ h1, gL, (by rw [List.length_map, szL_len, sizeLine_eq]; show 1 + ss.length ≤ _; omega), fun a3 ha3 => ⟨a3, _, rfl, .inl ⟨SqL.of upd_same, fun tq htq => ?_⟩⟩⟩
    refine ⟨tq, .tuple ((trailL b ss n (ss.length + 1)).map PyData.int), rfl, .tup (SqT.of (by rw [upd_same, et])) (dp_intsA _), shT.sho, shT.nod, by omega, by rw [sizeLine_eq]; omega, ?_⟩
    refine ⟨rfl, _, rfl, ifn (fun y => absurd rfl y) (fun _ => nxt82 ?_)⟩
    have sw := ((s12.trans s3).trans (up (o := .lst ([V.int n] ++ (szL b ss n ss.length).map V.int)) ha3)).trans (up (o := .tup ([V.int n] ++ (szL b ss n ss.length).map V.int)) htq)
    have j6 := (j.same (up (o := .lst ([V.int n] ++ (szL b ss n ss.length).map V.int)) ha3)).same (up (o := .tup ([V.int n] ++ (szL b ss n ss.length).map V.int)) htq)
    generalize upd (upd G3 a3 (.lst ([V.int n] ++ (szL b ss n ss.length).map V.int))) tq (.tup ([V.int n] ++ (szL b ss n ss.length).map V.int)) = G6 at sw j6 ⊢
    obtain ⟨dx6, t6, q6, z6, hr6, _⟩ := j6.hR.at_
    refine ⟨_, rfl, r, dx6, _, rfl, hr6, rfl, _, rfl, r, ss, n, b, rfl, j6.hR, n0, nm, fun v G7 hv s7 => ?_⟩
    have sw := (hs.trans sw).trans s7
    have hf := ft n n0 nm
    refine ⟨.bl v, _, rfl, rfl, _, rfl, rfl, ?_⟩
    by_cases c3 : leastL (reachL b ss ss.length) < 0
    · have e : dueV b ss = .non := if_pos c3
      have ev : v = false := by
        cases v with
        | false => rfl
        | true =>
          have := hf.mp (hv.mp rfl)
          omega
      subst ev
      exact ⟨_, rfl, ifb_neg (by rw [e]; rfl) ⟨.bl false, _, rfl, rfl, rfl, _, rfl, ifn (fun y => absurd rfl y) (fun _ => nxt82 ⟨sw, _, _, _, rfl⟩)⟩⟩
    · have e : dueV b ss = .int (leastL (reachL b ss ss.length)) := if_neg c3
      have ev : v = decide (n ≤ leastL (reachL b ss ss.length)) := by
        by_cases z : n ≤ leastL (reachL b ss ss.length)
        · rw [decide_eq_true z]
          exact hv.mpr (hf.mpr z)
        · rw [decide_eq_false z]
          cases v with
          | false => rfl
          | true => exact absurd (hf.mp (hv.mp rfl)) z
      subst ev
      exact ⟨_, rfl, ifb_pos (by rw [e]; rfl) ⟨_, rfl, _, rfl, n, _, rfl, e, .bl _, _, rfl, rfl, rfl, _, rfl, ifn (fun y => absurd rfl y) (fun _ => nxt82 ⟨sw, _, _, _, rfl⟩)⟩⟩
end
section
variable {P : Program} {w : World} {K : PySem.W.Frag} {mg : Str → Option Value} {base : Heap}
theorem ok_law (T : Tx w K mg) (U : UT K mg base) : PromG P w K mg base 14 "law" s_law ["_law_script"] (spLaw K) := by
  refine PromG.of T.d_law sc_law (fun vs H Q E h => ?_) (fun _ _ _ _ _ _ us hl => match us, hl with | [_], _ => rfl) (fun f cdv A outer s H vs Q E hr hgd h => ?_)
  · obtain ⟨a, ns, rfl, _⟩ := h
    rfl
  · obtain ⟨a, ns, rfl, hS, hl, hz, hT, k⟩ := h
    refine ⟨_, (pss_one (ps_ret (pe_callB (cr_all rfl) (by rfl) T.b_all (by decide +kernel) (pa_cons (pe_lc (own := [("_law_k", 1)]) (g := (gName 1)) (tt := tYes) (by rfl) sc_law.nd (pi_range1 (by rfl) T.b_range (pa_cons (pe_callB (call_max2 rfl) (by rfl) T.b_max (by decide +kernel) (pa_cons pe_int (pa_cons (pe_callB (call_min2 rfl) (by rfl) T.b_min (by decide +kernel) (pa_cons (pe_callB call_len_seq (by rfl) T.b_len (by decide +kernel) (pa_cons (pv 0) pa_nil)) (pa_cons pe_int pa_nil))) pa_nil))) pa_nil)) (blkOk_by (own := [("_law_k", 1)]) (N := ["_law_script", "_law_k"]) (sc := defScope s_law) (by decide +kernel)) (fun _ _ _ _ _ => (pg_name (i := 1) sc_law.nd rfl (Or.inl rfl))) (fun _ _ _ _ _ => pts_nil) (fun _ _ _ _ _ => (pe_callG (ok_L_right T) hgd (hr.mono (by decide)) (by rfl) (pa_cons (pe_callP (ok_L_bowl T) (hr.mono (by decide)) (by rfl) pass0 (pa_cons (pv 0) (pa_cons (pv 1) pa_nil))) pa_nil)))) pa_nil)))), ?_⟩
    refine ⟨_, rfl, _, _, rfl, .inl hS, _, _, rfl, _, _, rfl, _, rfl, ?_, ?_, fun D hD => ?_⟩
    · split <;> split <;> omega
    · split <;> split <;> omega
    refine lc_range (lo := 0) (Pv := fun i H' => Same H H' ∧ H' D = some (.lst (List.replicate i (.bl true)))) ⟨fun b o e => by rw [upd_ne (ne_of_none e hD)]; exact e, upd_same⟩ ?_ ?_
    · rintro i H' hi ⟨hs, hl2⟩
      refine ⟨rfl, _, rfl, _, rfl, a, ns, _, rfl, hs.seq hS, by omega, ?_, fun p H3 np s3 hp => ?_⟩
      · rw [List.length_map] at hi
        split at hi <;> split at hi <;> omega
      refine ⟨p, rfl, hp, fun H4 d4 => ?_⟩
      have nD : D ≠ p := ne_of_none hl2 np
      have e4 : H4 D = some (.lst (List.replicate i (.bl true))) := d4.kp _ _ nD (s3 _ _ hl2)
      refine ⟨_, e4, ?_, fun b o e => ?_, ?_⟩
      · rw [List.length_replicate]
        rw [List.length_map] at hi
        refine Nat.lt_of_lt_of_le (m := 100) ?_ (by decide)
        split at hi <;> split at hi <;> omega
      · have eb := hs _ _ e
        rw [upd_ne (ne_of_none e hD)]
        exact d4.kp _ _ (ne_of_none eb np) (s3 _ _ eb)
      · rw [upd_same, List.replicate_succ']
    · rintro H' ⟨hs, hl2⟩
      refine ⟨D, List.replicate _ true, rfl, SqL.of (by rw [List.map_replicate]; exact hl2), ?_⟩
      have e : ∀ n : Nat, (List.replicate n true).all id = true := fun n => by simp
      show Q (.bl ((List.replicate _ true).all id)) H'
      rw [e]
      exact k _
end
theorem facts {P : Program} {w : World} {K : PySem.W.Frag} {h : Heap} {mg : Str → Option Value} {f : Addr} (X : K.In h) (G : h.Ns mainGlobals mg) (hfa : mg ("law" : Str) = some (.ref f)) (c0 : SaysX fbL faL fnL tabL w K) (s0 : He5.SaysA [] smL K) :
    ∃ fd : FuncData, (∀ (s : Shared) (v : Value), BindsTo s fd ⟨[v], []⟩ [("_law_script", v)]) ∧ ∀ base : Heap, K.In base → base.Ns mainGlobals mg → UT K mg base → FnG P w K mg base 14 f fd ["_law_script"] (spLaw K) := by
  have T := tx_of (w := w) X G c0 s0
  have c : He.SaysD faL fnL K := c0.t.d
  obtain ⟨fd, F⟩ := c.def_ 46 (d := dd_law) rfl
  have hm := He.glo_ok X G (c.fact 46 (f := .glo "law") rfl)
  have e := hfa.symm.trans hm
  cases e
  have b := FunD.bindsA (ps := ["_law_script"]) F fun _ _ _ _ _ _ us hl => match us, hl with | [_], _ => rfl
  refine ⟨fd, fun s v => b s [v] rfl, fun base _ _ U => ?_⟩
  obtain ⟨f', fd', F', hm', D', _⟩ := (ok_law (P := P) (w := w) (base := base) T U).ex
  cases hm.symm.trans hm'
  have efd : fd' = fd := by
    obtain ⟨_, _, _, _, _, _, _, _, _, _, _, l1, _⟩ := F.ex
    obtain ⟨_, _, _, _, _, _, _, _, _, _, _, l2, _⟩ := D'.ex
    have l2' := l2.symm.trans l1
    injection l2' with l3
    injection l3 with _ _ l4 _
    injection l4
  rw [← efd]
  exact F' 
end Sz
open PySem PySem.W PySem.Calls PyProof.Rows in
set_option maxRecDepth 100000 in
set_option maxHeartbeats 0 in
theorem PySem.Challenge.cw_sizestacks_k82_whole_roads_by_payloads_holds : PySem.Challenge.rw_sizestacks_k82_whole_roads_by_payloads.Holds := by
  w_on; o_law
  refine HandSHeadRun.head_any (r := OpenLaw.row PySem.Challenge.rw_sizestacks_k82_whole_roads_by_payloads) (q := view (OpenLaw.row PySem.Challenge.rw_sizestacks_k82_whole_roads_by_payloads).prog [83]) (H := Sz.hk) (ob := Sz.ob) (M := 30000) (loose := Sz.looseL) (d := HandSHeadRun.topDef (OpenLaw.row PySem.Challenge.rw_sizestacks_k82_whole_roads_by_payloads).prog 83) (kwd := []) Sz.ob_eq
    (by kernel_rfl) (fun z => by kernel_rfl) Sz.run (by kernel_rfl) (by kernel_rfl) (by kernel_rfl) (by rfl) (by first | assumption | decide +kernel) (by decide +kernel) ⟨rfl, rfl, rfl, rfl, rfl, by decide +kernel⟩ ?hw ?hc
  case hw => w_witness2
  case hc =>
    refine Sz.walk_ofGT (l := PySem.Challenge.rw_sizestacks_k82_whole_roads_by_payloads) (n := 63) (k := 14) (x := "_law_script") rfl (by decide) (by kernel_rfl) ⟨rfl, by decide, by decide⟩ ?F
    intro w mg fa h Y G hmg0
    obtain ⟨K, KX, c⟩ := Y
    have hmg : mg ("law" : PySem.Str) = some (.ref fa) := by
      have e : (HandSHeadRun.topDef (OpenLaw.row PySem.Challenge.rw_sizestacks_k82_whole_roads_by_payloads).prog 83).name = ("law" : PySem.Str) := by kernel_rfl
      rw [← e]
      exact hmg0
    obtain ⟨fd, hb, hF⟩ := Sz.facts (P := (PySem.Challenge.rw_sizestacks_k82_whole_roads_by_payloads).prog) (w := w) KX G hmg c.x c.s
    have inT : ∀ p ∈ Sz.tfL.map (He.cT K), ∃ d ∈ Sz.tfL, He.cT K d = p := fun p hp => List.mem_map.mp hp
    refine ⟨K, fd, Sz.spLaw K, Sz.tfL.map (He.cT K), KX, fun p hp => ?_, fun p hp => ?_, fun p hp => ?_, hb, fun H a ns hl hz hT hS => ⟨a, ns, rfl, hS, hl, hz, Sz.tabs_start hT, fun _ => rfl⟩, hF⟩
    · obtain ⟨d, hd, rfl⟩ := inT p hp
      exact c.empty d hd
    · obtain ⟨d, hd, rfl⟩ := inT p hp
      exact c.out d hd
    · obtain ⟨d, hd, rfl⟩ := inT p hp
      exact PySem.W.codeHd_of_K KX (c.hd d hd)
