import PyProof.Rows.All
import Wide.All
import OpenK.AllK
import Wide.FinOn
import KE.KStateDown
import HandS.ForMost
import HandS.Exc
import HandS.Wide
import HandS.WideBits
import HandS.IsInst
import HandS.Style
import HandS.RaiseMore
import HandS.Defaults
import HandS.Evl
import HandS.EndBits
import HandS.Words
import HandS.WordsExc
import HandS.Head0
import HandS.Head1
import HandS.Head2
import HandS.HeadEnd
import HandS.HeadHook1
import HandS.HeadHook2
import HandS.HeadHook3
import HandS.Star
import HandS.FStr
import HandS.Text
import HandS.Walk
import KE.GoesMore
import PyProof.LongRange
import HandS.Conv
import PyProof.StrLawsRepr
import HandS.Zip
import HandS.TupAny
import PyProof.InstSpecial
import HandS.OwnEq
import KE.KFmtOwn
import PyProof.InstNe
import HandS.Zip0
import PyProof.FString3
import PyProof.Rows.StrIntSpec
import HandS.ExcInit
import HandS.HotCalls
import HandS.ExcIs
import HandS.ExcField
import KE.KTryMore
import KE.KExcInit
import HandS.SetFor
import HandS.EndTab
import HandS.HeadHook4
import OpenK.KOps
import KE.KMulAny
import HandS.DeepEq
import PyProof.NeKinds
import HandS.Small
import HandS.Dict
import HandS.More
import HandS.NoneIn
import HandS.ExcOwn
import HandS.MakeKwOnly
import PyProof.ReprNest
import PyProof.InstEq
import PyProof.Rows.Range3
import PyProof.RulesFinally
import KE.GoesZip
import KE.GoesEnum
import KE.KDictList
import KE.KWithOwn
import HandS.Nested
import HandS.NestedK
import PySem.Challenge.RW_sizestacks_k53_whole_roads_replayed
set_option Elab.async false
set_option linter.all false
set_option maxRecDepth 100000
set_option maxHeartbeats 4000000
set_option exponentiation.threshold 20000
/-! Own base: a def by its promise, a few rules more. -/
namespace Sz
open PySem PySem.Spec PyProof.Rows L2

/-- a def of the text, by its name -/
def DefAt (K : PySem.W.Frag) (mg : Str → Option Value) (x : Str) (st : Stmt) : Prop :=
  ∃ f fd, FunD K x x (defArgs st) (defBody st) (defScope st) [] [] f fd ∧ mg x = some (.ref f)

/-- the def named x keeps the promise sp -/
structure Prom (P : Program) (w : World) (K : PySem.W.Frag) (mg : Str → Option Value) (base : Heap) (CX : CXT) (k : Nat) (x : Str) (st : Stmt) (ps : List Str) (sp : Sp) : Prop where
  ex : ∃ f fd, FnOk P w K mg base CX k f fd ps sp ∧ mg x = some (.ref f) ∧ FunD K x x (defArgs st) (defBody st) (defScope st) [] [] f fd ∧ Binds K fd ps []

section
variable {P : Program} {w : World} {K : PySem.W.Frag} {mg : Str → Option Value} {base : Heap}
theorem Prom.of {x : Str} {st : Stmt} {ps N : List Str} {sp : Sp} {k : Nat} (D : DefAt K mg x st) (S : FnScope N ps (defScope st)) (len : ∀ vs H Q E, sp vs H Q E → vs.length = ps.length)
    (hb : ∀ (kV doc pm : Value) (an : Option Addr) (cdv ct : Value) (us : List Value), us.length = ps.length → bindArgs (PySem.W.fnOf x x (defArgs st) (defBody st) (defScope st) .none kV doc pm an cdv ct) ⟨us, []⟩ = pure (ps.zip us))
    (hbody : ∀ (f : Addr) (cdv : Value) (A : Around) (outer : List Env) (s : Shared) (H : Hp) (vs : List V) (Q : VK) (E : XK), Room k (A.deeper (envOfC x (defScope st) s.heap.objs.size f cdv)) → sp vs H Q E →
      ∃ t, PSs (cxOf CX0 P w K mg base N x (defScope st) f cdv A outer s H E).nox (defBody st) t ∧ t { nx := fun _ H' => Q .non H', rt := Q } (start N vs) H) :
    Prom P w K mg base CX0 (k + 1) x st ps sp := by
  obtain ⟨f, fd, F, hm⟩ := D
  refine ⟨f, fd, F.ok S len (fun cdv A outer s H vs Q E hr hs => ?_), hm, F, F.bindsN hb⟩
  obtain ⟨t, h1, h2⟩ := hbody f cdv A outer s H vs Q E hr hs
  exact ⟨t, h1.nox, h2⟩
end

section
variable {X : Cx} {CX : CXT} {k : Nat} {x : Str} {st : Stmt} {ps : List Str} {sp : Sp} {E : XK} {e : Expr} {es : List Expr} {t tk : TA} {p pos : Pos} {kws : List Keyword} {ks : List Str}
theorem pe_callP (G : Prom X.prog X.w X.K X.mg X.base CX k x st ps sp) (hr : Room k X.A) (hg : Gl X x) (hx : Passes CX X E) (ha : PA X (e :: es) t)
    (hdb : (x == ("__debug__" : Str)) = false := by decide) (he : starEach (e :: es) X.env = (false, eval e X.env) :: starEach es X.env := by rfl) (hpl : (backTo pos (starEach es X.env)).any (·.1) = false := by rfl) :
    PE X (.Call (.Name x p) (e :: es) [] pos) (tCall sp [] E t) := by
  obtain ⟨f, fd, F, hm, D, hb⟩ := G.ex
  exact pe_call F hr hg hm D.kp hb .nil hx ha hdb he hpl
/-- f(k = v, ..), keywords alone -/
theorem pe_callKP {g : List Value → List Value → List Value} {gV : List V → List V → List V} (G : Prom X.prog X.w X.K X.mg X.base CX k x st ps sp) (hr : Room k X.A) (hg : Gl X x) 
    (hb : ∀ fd f, FunD X.K x x (defArgs st) (defBody st) (defScope st) [] [] f fd → KBinds X.K fd ps ks g gV) (hx : Passes CX X E)
    (hkw : PK X kws tk) (hall : (backToKw pos (keywordEach kws X.env)).all (·.1.isSome) = true := by rfl) (hks : (backToKw pos (keywordEach kws X.env)).filterMap (·.1) = ks := by rfl)
    (hdb : (x == ("__debug__" : Str)) = false := by decide)
    (hpl : ((backTo pos (starEach [] X.env)).any (·.1) || (backToKw pos (keywordEach kws X.env)).any (·.1.isNone)) = false := by rfl) :
    PE X (.Call (.Name x p) [] kws pos) (tCallK sp gV E tNil tk) := by
  obtain ⟨f, fd, F, hm, D, _⟩ := G.ex
  have hb := hb fd f D
  refine ⟨fun pins s σ H Q I h => ?_⟩
  refine wpAny_Call_Name_kw (ld_glob I hg hm ?_ hdb)
  refine PySem.W.callWith_KW0 (h₀ := X.base) I.ok.mod.kin D.kp hall (thn (hkw.run pos pins s σ H _ I h) fun ws s2 z => ?_) hpl
  obtain ⟨zs, H2, I2, rz, q2⟩ := z
  refine ⟨I2.kIn, ?_⟩
  rw [hks]
  exact run_fnk F hr hb hx I2 .nil rz q2
/-- the keywords' values put in the parameters' order -/
def perm {α : Type} (ix : List Nat) (us ws : List α) : List α := match us with
  | [] => if ws.length = ix.length then ix.filterMap fun i => ws[i]? else []
  | _ :: _ => []
theorem perm_vals {ix : List Nat} {vs zs : List V} {us ws : List Value} (r : Vals vs us) (z : Vals zs ws) : Vals (perm ix vs zs) (perm ix us ws) := by
  cases r with
  | cons _ _ => exact .nil
  | nil =>
    show Vals (if zs.length = ix.length then _ else _) (if ws.length = ix.length then _ else _)
    rw [z.length]
    by_cases c : ws.length = ix.length
    · rw [if_pos c, if_pos c]
      clear c
      induction ix with
      | nil => exact .nil
      | cons i ix ih =>
        rw [List.filterMap_cons, List.filterMap_cons]
        cases e : zs[i]? with
        | none =>
          rw [z.none_of e]
          exact ih
        | some v =>
          obtain ⟨u, hu, rv⟩ := z.get e
          rw [hu]
          exact .cons rv ih
    · rw [if_neg c, if_neg c]
      exact .nil
theorem kb_of {K : PySem.W.Frag} (ix : List Nat) (hne : 0 < ps.length)
    (h : ∀ (kV doc pm : Value) (an : Option Addr) (cdv ct : Value) (ws : List Value), ws.length = ix.length → bindArgs (PySem.W.fnOf x x (defArgs st) (defBody st) (defScope st) .none kV doc pm an cdv ct) ⟨[], ks.zip ws⟩ = pure (ps.zip (perm ix [] ws))) :
    ∀ fd f, FunD K x x (defArgs st) (defBody st) (defScope st) [] [] f fd → KBinds K fd ps ks (perm ix) (perm ix) := fun fd f F => by
  obtain ⟨oc, od, dV, kV, doc, pm, an, cdv, ct, osl, rfl, lk, hcd, hD, hK⟩ := F.ex
  rcases hD with ⟨_, rfl⟩ | ⟨e, _⟩
  · refine ⟨fun s us ws _ hl => ?_, fun r z => perm_vals r z⟩
    cases us with
    | cons u us =>
      have e0 : (perm ix (u :: us) ws).length = 0 := rfl
      omega
    | nil =>
      by_cases c : ws.length = ix.length
      · exact .of_eq (h kV doc pm an cdv ct ws c)
      · have e0 : perm ix [] ws = [] := if_neg c
        rw [e0] at hl
        simp at hl
        omega
  · exact absurd rfl e
/-- a constant of the module -/
theorem pe_gint {v : Int} (h : ∃ u, X.mg x = some (.int v u)) (hg : Gl X x := by rfl) (hd : (x == ("__debug__" : Str)) = false := by decide) : PE X (.Name x pos) (tC (.int v)) := by
  obtain ⟨u, hm⟩ := h
  exact pe_glob hg hm ⟨_, rfl⟩ hd
theorem op_isnotBl : OpR X (compareOp .IsNot) (fun x y H Q => ∃ b : Bool, y = .bl b ∧ Q (.bl (!decide (x = .bl b))) H) := by
  intro pins s σ H x y v u Q I rx ry h
  obtain ⟨b, rfl, q⟩ := h
  cases (show u = Value.bool b from ry)
  have key : plainIs v (Value.bool b) = true ∧ (v = Value.bool b ↔ x = .bl b) := by
    cases x with
    | non => cases (show v = Value.none from rx); exact ⟨rfl, by constructor <;> intro z <;> cases z⟩
    | bl c => cases (show v = Value.bool c from rx); exact ⟨rfl, by constructor <;> intro z <;> cases z <;> rfl⟩
    | int i => obtain ⟨t, rfl⟩ := (show ∃ t, v = Value.int i t from rx); exact ⟨rfl, by constructor <;> intro z <;> cases z⟩
    | str i => obtain ⟨t, rfl⟩ := (show ∃ t, v = Value.str i t from rx); exact ⟨rfl, by constructor <;> intro z <;> cases z⟩
    | byt i => obtain ⟨t, rfl⟩ := (show ∃ t, v = Value.bytes i t from rx); exact ⟨rfl, by constructor <;> intro z <;> cases z⟩
    | flt i => obtain ⟨t, rfl⟩ := (show ∃ t, v = Value.float i t from rx); exact ⟨rfl, by constructor <;> intro z <;> cases z⟩
    | ref a => cases (show v = Value.ref a from rx); exact ⟨rfl, by constructor <;> intro z <;> cases z⟩
    | ty n => cases (show v = Value.type n from rx); exact ⟨rfl, by constructor <;> intro z <;> cases z⟩
  by_cases e : x = .bl b
  · have ev := key.2.mpr e
    subst ev
    exact wpAny_isNot_self rfl ⟨.bl false, H, I, rfl, by simpa [e] using q⟩
  · exact wpAny_isNot_other key.1 (fun z => e (key.2.mp z)) ⟨.bl true, H, I, rfl, by simpa [e] using q⟩
/-- repr of a flat value -/
def flatShown : V → Option Str
  | .non => some "None"
  | .bl b => some (if b then "True" else "False")
  | .int i => if i.natAbs.log2 < 1920 then some (toString i) else none
  | _ => none
theorem cr_repr : CallR X (.builtin "repr") (fun xs H Q => ∃ v z, xs = [v] ∧ flatShown v = some z ∧ Q (.str z) H) := by
  intro pins s σ H xs us Q I r h
  obtain ⟨v, z, rfl, hz, q⟩ := h
  obtain ⟨u, rfl, ru⟩ := vals1 r
  cases v with
  | non =>
    cases (show u = Value.none from ru)
    obtain rfl : ("None" : Str) = z := Option.some.inj hz
    exact PySem.P.repr_of_none ⟨.str _, H, I.tok _, ⟨_, rfl⟩, q⟩
  | bl b =>
    cases (show u = Value.bool b from ru)
    obtain rfl : (if b then "True" else "False" : Str) = z := Option.some.inj hz
    exact PySem.P.repr_of_bool ⟨.str _, H, I.tok _, ⟨_, rfl⟩, q⟩
  | int i =>
    obtain ⟨t, rfl⟩ := (show ∃ t, u = Value.int i t from ru)
    have hz2 : (if i.natAbs.log2 < 1920 then some (toString i : Str) else none) = some z := hz
    by_cases c : i.natAbs.log2 < 1920
    · rw [if_pos c] at hz2
      obtain rfl := Option.some.inj hz2
      exact PySem.P.repr_of_int c ⟨.str _, H, I.tok _, ⟨_, rfl⟩, q⟩
    · rw [if_neg c] at hz2
      cases hz2
  | _ => cases hz
/-- a power of any size that the model takes -/
def CPowW (i j : Int) : Prop := 1 < i ∧ 0 < j ∧ ∃ n : Nat, i.natAbs < 2 ^ n ∧ (n : Int) * j ≤ 134217728
theorem op_powW : OpR X (binaryOp .Pow) (rI CPowW fun i j => .int (i ^ j.toNat)) := opI fun i j t u s Q E hc q => by
  obtain ⟨h1, h2, n, h3, h4⟩ := hc
  have hb : ¬ Builtin.Int.intTooBig (((Builtin.Int.intBits i : Nat) : Int) * j) = true := by
    have e : bitsLine = 134217728 := by decide
    have b := PyProof.Rows.intBits_le h3
    have m : ((Builtin.Int.intBits i : Nat) : Int) * j ≤ (n : Int) * j := Int.mul_le_mul_of_nonneg_right (by omega) (by omega)
    unfold Builtin.Int.intTooBig
    rw [decide_eq_true_eq, e]
    omega
  refine PySem.AutoIntOps.pow_4 (by omega) (by simpa using (show ¬ j = 0 by omega)) (by simpa using (show ¬ i = 0 ∧ ¬ i = 1 by omega)) (by simpa using (show ¬ i = -1 by omega)) hb ?_
  exact q
/-- divmod by a positive number of at most 30 figures -/
theorem divp_small {i j : Int} (h : 0 < j) (h2 : j ≤ 1000000000000000000000000000000) : CDivP i j := by
  refine ⟨h, PyProof.noPylong_of_log2 ?_⟩
  have h3 : j.natAbs < 2 ^ 200 := Nat.lt_of_le_of_lt (show j.natAbs ≤ 1000000000000000000000000000000 by omega) (by decide)
  exact Nat.lt_of_lt_of_le (PySem.Flt.log2_lt_of (by decide) h3) (by decide)
end
/-! ### what an if's test says -/
theorem ifd {c A B : Prop} [Decidable c] (h1 : c → A) (h2 : ¬ c → B) : if decide c = true then A else B := by
  by_cases h : c
  · rw [decide_eq_true h, if_pos rfl]; exact h1 h
  · rw [decide_eq_false h, if_neg Bool.false_ne_true]; exact h2 h
theorem ifd_pos {c A B : Prop} [Decidable c] (h : c) (hA : A) : if decide c = true then A else B := by
  rw [decide_eq_true h, if_pos rfl]; exact hA
theorem ifd_neg {c A B : Prop} [Decidable c] (h : ¬ c) (hB : B) : if decide c = true then A else B := by
  rw [decide_eq_false h, if_neg Bool.false_ne_true]; exact hB
theorem ifn {c A B : Prop} [Decidable c] (h1 : ¬ c → A) (h2 : c → B) : if (!decide c) = true then A else B := by
  by_cases h : c
  · rw [decide_eq_true h]; exact h2 h
  · rw [decide_eq_false h]; exact h1 h
/-- all but p stands as it stood -/
def Kp (p : Addr) (H H' : Hp) : Prop := ∀ b o, b ≠ p → H b = some o → H' b = some o
theorem Kp.refl (p : Addr) (H : Hp) : Kp p H H := fun _ _ _ h => h
theorem Kp.trans {p : Addr} {H H1 H2 : Hp} (a : Kp p H H1) (b : Kp p H1 H2) : Kp p H H2 := fun c o n h => b c o n (a c o n h)
theorem Kp.set {p : Addr} {H H' : Hp} {o : HO} (a : Kp p H H') : Kp p H (L2.upd H' p o) := fun b u n h => by
  rw [upd_ne n]
  exact a b u n h
theorem Kp.new {p q : Addr} {H H' : Hp} {o : HO} (a : Kp p H H') (h : H' q = none) : Kp p H (upd H' q o) := fun b u n e => by
  have e2 := a b u n e
  rw [upd_ne (ne_of_none e2 h)]
  exact e2
end Sz
namespace Sz
open PySem PySem.Spec PyProof.Rows L2
/-! ### defs that show containers: nothing is being shown around their call -/
structure FnG (P : Program) (w : World) (K : PySem.W.Frag) (mg : Str → Option Value) (base : Heap) (k : Nat) (f : Addr) (fd : FuncData) (ps : List Str) (sp : Sp) : Prop where
  len : ∀ vs H Q E, sp vs H Q E → vs.length = ps.length
  run : ∀ (A : Around) (outer : List Env) (s : Shared) (H : Hp) (args : Args) (us : List Value) (vs : List V) (Q : VK) (E : XK), Room k A → A.guards = some [] → Env0 P w K mg base A outer s H →
    BindsTo s fd args (ps.zip us) → Vals vs us → sp vs H Q E → codeAny (model P w) A (.call (.ref f) args) (CR CX0 outer P w H s Q E) s
theorem FnG.of {P : Program} {w : World} {K : PySem.W.Frag} {mg : Str → Option Value} {base : Heap} {k : Nat} {f : Addr} {fd : FuncData} {ps : List Str} {sp : Sp} (F : FnOk P w K mg base CX0 k f fd ps sp) : FnG P w K mg base k f fd ps sp :=
  ⟨F.len, fun A outer s H args us vs Q E hr _ e0 hb r h => F.run A outer s H args us vs Q E hr e0 hb r h⟩
/-- from the body -/
theorem fnG_of {P : Program} {w : World} {K : PySem.W.Frag} {mg : Str → Option Value} {base : Heap} {k : Nat} {f : Addr} {x q : Str} {pr : Arguments} {bd : List Stmt} {sc : Scope} {dvs : List V} {kws : List (Str × V)} {fd : FuncData} {N ps : List Str} {sp : Sp}
    (F : FunD K x q pr bd sc dvs kws f fd) (S : FnScope N ps sc) (len : ∀ vs H Q E, sp vs H Q E → vs.length = ps.length)
    (hbody : ∀ (cdv : Value) (A : Around) (outer : List Env) (s : Shared) (H : Hp) (vs : List V) (Q : VK) (E : XK), Room k (A.deeper (envOfC q sc s.heap.objs.size f cdv)) → (A.deeper (envOfC q sc s.heap.objs.size f cdv)).guards = some [] → sp vs H Q E →
      ∃ t, PSs (cxOf CX0 P w K mg base N q sc f cdv A outer s H E).nox bd t ∧ t { nx := fun _ H' => Q .non H', rt := Q } (start N vs) H) : FnG P w K mg base (k + 1) f fd ps sp := by
  obtain ⟨c1, c2, c3, c4, c5, c6, c7, cdv, c9, c10, rfl, look, code, _, _⟩ := F.ex
  refine ⟨len, fun A outer s H args us vs Q E room gd e0 hbind rel want => ?_⟩
  have old : ∀ b o, base.get? b = some o → s.heap.get? b = some o := fun b o e => (e0.bs b o e).1
  have inK : K.In s.heap := e0.mod.kin.keeps old
  have kinds : ∀ y ∈ ps.zip us, sc.names.lookup y.1 = some .local ∨ (sc.names.lookup y.1 = some .cell ∧ ((cellsFrom (s.heap.objs.size + 1) sc.names []).lookup y.1).isSome = true) := by
    rintro ⟨n, v⟩ hy
    have hm : n ∈ ps := (List.of_mem_zip hy).1
    cases S.par n hm with
    | inl z => exact Or.inl z
    | inr z => exact Or.inr ⟨z, PySem.W.cellsFrom_some _ _ _ (.inl z)⟩
  obtain ⟨t, dt, rt⟩ := hbody cdv A outer s H vs Q E (room.deeper _) gd want
  have dt := dt.nox
  refine codeAny_call_function room.depth (inK _ _ look) rfl S.co S.gen rfl (PySem.W.codeRec_of inK code) ?_
  refine hbind _ _ _ _ (wpAny_newFunctionEnv_cells S.kind kinds ?_)
  rintro _ rfl s1 ic
  refine ⟨(e0.mod.nolimit.keeps old).keeps ic.toInCall.keep, codeAny_func ?_⟩
  refine wpAny_mono (dt.run [] s1 (start N vs) H _ (inv_start S room.hd e0 (len _ _ _ _ want) rel ic) rt) ?_ (fun _ _ z => z)
  intro fl s' hs
  cases fl with
  | ret u => exact let ⟨v, _, H', J, rv, qv⟩ := hs; ⟨v, H', J.os, J.bare, J.base, J.hok, rv, qv⟩
  | next => exact let ⟨_, H', J, qv⟩ := hs; ⟨.non, H', J.os, J.bare, J.base, J.hok, rfl, qv⟩
  | brk => exact let ⟨_, _, _, qv⟩ := hs; False.elim qv
  | cont => exact let ⟨_, _, _, qv⟩ := hs; False.elim qv
/-- the def named x keeps the promise sp where nothing is being shown -/
structure PromG (P : Program) (w : World) (K : PySem.W.Frag) (mg : Str → Option Value) (base : Heap) (k : Nat) (x : Str) (st : Stmt) (ps : List Str) (sp : Sp) : Prop where
  ex : ∃ f fd, FnG P w K mg base k f fd ps sp ∧ mg x = some (.ref f) ∧ FunD K x x (defArgs st) (defBody st) (defScope st) [] [] f fd ∧ Binds K fd ps []
section
variable {P : Program} {w : World} {K : PySem.W.Frag} {mg : Str → Option Value} {base : Heap}
theorem PromG.of {x : Str} {st : Stmt} {ps N : List Str} {sp : Sp} {k : Nat} (D : DefAt K mg x st) (S : FnScope N ps (defScope st)) (len : ∀ vs H Q E, sp vs H Q E → vs.length = ps.length)
    (hb : ∀ (kV doc pm : Value) (an : Option Addr) (cdv ct : Value) (us : List Value), us.length = ps.length → bindArgs (PySem.W.fnOf x x (defArgs st) (defBody st) (defScope st) .none kV doc pm an cdv ct) ⟨us, []⟩ = pure (ps.zip us))
    (hbody : ∀ (f : Addr) (cdv : Value) (A : Around) (outer : List Env) (s : Shared) (H : Hp) (vs : List V) (Q : VK) (E : XK), Room k (A.deeper (envOfC x (defScope st) s.heap.objs.size f cdv)) → (A.deeper (envOfC x (defScope st) s.heap.objs.size f cdv)).guards = some [] → sp vs H Q E →
      ∃ t, PSs (cxOf CX0 P w K mg base N x (defScope st) f cdv A outer s H E).nox (defBody st) t ∧ t { nx := fun _ H' => Q .non H', rt := Q } (start N vs) H) :
    PromG P w K mg base (k + 1) x st ps sp := by
  obtain ⟨f, fd, F, hm⟩ := D
  exact ⟨f, fd, fnG_of F S len (fun cdv A outer s H vs Q E hr hg hs => hbody f cdv A outer s H vs Q E hr hg hs), hm, F, F.bindsN hb⟩
theorem Prom.g {x : Str} {st : Stmt} {ps : List Str} {sp : Sp} {k : Nat} (G : Prom P w K mg base CX0 k x st ps sp) : PromG P w K mg base k x st ps sp := by
  obtain ⟨f, fd, F, r⟩ := G.ex
  exact ⟨f, fd, FnG.of F, r⟩
end
section
variable {X : Cx} {k : Nat} {x : Str} {st : Stmt} {ps : List Str} {sp : Sp} {e : Expr} {es : List Expr} {t : TA} {p pos : Pos}
/-- f(..) of such a def -/
theorem pe_callG (G : PromG X.prog X.w X.K X.mg X.base k x st ps sp) (gd : X.A.guards = some []) (hr : Room k X.A) (hg : Gl X x) (ha : PA X (e :: es) t)
    (hdb : (x == ("__debug__" : Str)) = false := by decide) (he : starEach (e :: es) X.env = (false, eval e X.env) :: starEach es X.env := by rfl) (hpl : (backTo pos (starEach es X.env)).any (·.1) = false := by rfl) :
    PE X (.Call (.Name x p) (e :: es) [] pos) (tCall sp [] E0 t) := by
  obtain ⟨f, fd, F, hm, D, hb⟩ := G.ex
  constructor
  intro pins s σ H Q I h
  refine wpAny_Call_Name_kw (ld_glob I hg hm (PySem.W.callWith_K (h₀ := X.base) I.ok.mod.kin D.kp (thn (ha.run pos pins s σ H _ I h) ?_) he hpl) hdb)
  rintro us s1 ⟨vs, H1, I1, rel, want⟩
  refine ⟨I1.kIn, wpAny_call (codeAny_mono (F.run X.A X.stack s1 H1 ⟨us, []⟩ (us ++ []) (vs ++ []) Q E0 hr gd I1.env0 (hb s1 us I1.kIn ?_) (rel.append .nil) want) ?_)⟩
  · rw [← (rel.append Paired.nil).length]
    exact F.len _ _ _ _ want
  · intro r s' hq
    cases r with
    | error z => exact False.elim hq
    | ok fl =>
      cases fl with
      | ret u => exact I1.after hq
      | next => exact False.elim hq
      | brk => exact False.elim hq
      | cont => exact False.elim hq
/-- repr of data at any depth -/
theorem cr_reprD (gd : X.A.guards = some []) (hu : X.A.units + 64 < cLine) : CallR X (.builtin "repr") (fun xs H Q => ∃ (a : Addr) (d : PyData), xs = [.ref a] ∧ Dp X.K H (.ref a) d ∧ d.showable = true ∧ d.hasDict = false ∧ d.depth ≤ 40 ∧ d.shown.length ≤ sizeLine ∧ Q (.str d.shown) H) := by
  intro pins s σ H xs us Q I r h
  obtain ⟨a, d, rfl, hd, h1, h2, h3, h4, q⟩ := h
  obtain ⟨u, rfl, ru⟩ := vals1 r
  obtain ⟨as, rd⟩ := Dp.reads I d _ u hd ru
  cases (show u = Value.ref a from ru)
  refine repr_of_reads' rd h1 (PyData.noDict_hsm h2) gd (by omega) (fun _ _ z => z) (fun h' tok tk kept => ?_) h4
  exact ⟨.str d.shown, H, I.kept (t' := tk) kept, ⟨_, rfl⟩, q⟩
end
/-! ### the law's call -/
section
variable {P : Program} {w : World} {K : PySem.W.Frag} {mg mb : Str → Option Value} {k : Nat} {fa a : Addr} {fd : FuncData} {x : Str} {sp : Sp} {st : Shared} {vs : List Value} {ns : List Int}
/-- the script as the law finds it -/
def scriptHp (K : PySem.W.Frag) (a : Addr) (vs : List Value) (ns : List Int) : Hp := fun b => if b = a ∧ K.lookup a = none then some (.frz { cls := .type "list", data := .seq vs.toArray } (.lst (ns.map V.int))) else none
theorem scriptHp_some {b : Addr} {u : HO} (h : scriptHp K a vs ns b = some u) : b = a ∧ K.lookup a = none ∧ u = .frz { cls := .type "list", data := .seq vs.toArray } (.lst (ns.map V.int)) := by
  unfold scriptHp at h
  by_cases c : b = a ∧ K.lookup a = none
  · rw [if_pos c] at h
    exact ⟨c.1, c.2, (Option.some.inj h).symm⟩
  · rw [if_neg c] at h
    cases h
theorem scriptHp_none {b : Addr} (h : b ≠ a) : scriptHp K a vs ns b = none := if_neg fun z => h z.1
theorem law_callG (KX : K.In st.heap) (gl : st.heap.Ns mainGlobals mg) (bl : st.heap.Ns builtinsNs mb) (bb : ∀ y : Str, y ≠ "__name__" → mb y = bootBuiltins y) (nl : st.heap.NoLimit) (gn : st.gens = #[])
    (ha : st.heap.get? a = some { cls := .type "list", data := .seq vs.toArray }) (hi : IntsAre vs ns) (hl : ns.length ≤ sizeLine) (room : Room k callerA)
    (F : ∀ base : Heap, K.In base → base.Ns mainGlobals mg → FnG P w K mg base k fa fd [x] sp) (bind1 : ∀ (s : Shared) (u : Value), BindsTo s fd ⟨[u], []⟩ [(x, u)])
    (want : ∀ H : Hp, SqL K H a (ns.map V.int) → sp [.ref a] H (fun v _ => v = .bl true) fun _ _ _ => False) :
    codeAny (model P w) callerA (.call (.ref fa) ⟨[.ref a], []⟩) (fun r s' => r = .ok (.ret (.bool true)) ∧ OldK st.heap s'.heap ∧ s'.os = st.os ∧ AllBare s'.gens) st := by
  have rel : Vals (ns.map V.int) vs := vals_ints hi
  have len : (ns.map V.int).length ≤ sizeLine := by rw [List.length_map]; exact hl
  generalize hH : scriptHp K a vs ns = H
  have sm : ∀ {b u}, H b = some u → b = a ∧ K.lookup a = none ∧ u = .frz { cls := .type "list", data := .seq vs.toArray } (.lst (ns.map V.int)) := fun {b u} e => by
    rw [← hH] at e
    exact scriptHp_some e
  have ok : HOk P w H st.heap := fun b u e => by
    obtain ⟨rfl, _, rfl⟩ := sm e
    exact ⟨ha, len, vs, _, rel, ha⟩
  have sq : SqL K H a (ns.map V.int) := by
    cases lk : K.lookup a with
    | none => exact Or.inl (Or.inr ⟨_, by rw [← hH]; exact if_pos ⟨rfl, lk⟩⟩)
    | some o =>
      have e := (KX a o lk).symm.trans ha
      cases e
      exact Or.inr ⟨_, vs.toArray, _, lk, rfl, rfl, rfl, by rw [List.size_toArray, ← rel.length]; exact len, by simpa using rel⟩
  have hid : ∀ {b o}, st.heap.get? b = some o → H b = none → (hidT st.heap H).get? b = some o := fun e n => hidT_get e n
  have free : ∀ {b : Addr} {m}, st.heap.Ns b m → H b = none := fun {b m} hn => by
    cases e : H b with
    | none => rfl
    | some u =>
      obtain ⟨rfl, _, _⟩ := sm e
      obtain ⟨o, es, ep, e1, e2, _⟩ := hn
      have z := ha.symm.trans e1
      cases z
      cases e2
  have ns1 : ∀ {b : Addr} {m}, st.heap.Ns b m → (hidT st.heap H).Ns b m := fun {b m} hn => by
    have fr := free hn
    obtain ⟨o, es, ep, e1, e2⟩ := hn
    exact ⟨o, es, ep, hid e1 fr, e2⟩
  have inB : K.In (hidT st.heap H) := fun b o e => hid (KX b o e) (by
    cases z : H b with
    | none => rfl
    | some u =>
      obtain ⟨rfl, z2, _⟩ := sm z
      rw [z2] at e
      cases e)
  have md : Mod K mg (hidT st.heap H) := ⟨inB, ns1 gl, ⟨mb, ns1 bl, bb⟩, let ⟨mc, c1, c2⟩ := nl; ⟨mc, ns1 c1, c2⟩⟩
  have env : Env0 P w K mg (hidT st.heap H) callerA [] st H := ⟨rfl, md, fun _ _ e => of_hidT e, Nat.le_of_eq (hidT_size _ _), trivial, fun b z => absurd (show b ∈ ([] : List Addr) from z) (by simp), ok, .of_eq gn⟩
  refine codeAny_mono ((F _ inB (ns1 gl)).run callerA [] st H ⟨[.ref a], []⟩ [.ref a] [.ref a] _ _ room rfl env (bind1 st (.ref a)) (.cons rfl .nil) (want H sq)) fun r s' h => ?_
  cases r with
  | error z => exact False.elim h
  | ok fl =>
    cases fl with
    | next => exact False.elim h
    | brk => exact False.elim h
    | cont => exact False.elim h
    | ret u =>
      obtain ⟨v, H', os, bare, un, ok', ru, qv⟩ := h
      cases (show v = .bl true from qv)
      cases (show u = Value.bool true from ru)
      refine ⟨rfl, OldK.of_keep ?_, os, bare⟩
      intro b o e
      cases z : H b with
      | none => exact un.keep b o e z (by intro y; exact absurd (show b ∈ ([] : List Addr) from y) (by simp)) (by simp)
      | some t =>
        obtain ⟨rfl, _, rfl⟩ := sm z
        have e2 := (ok' _ _ (un.frzs _ _ _ z)).1
        have e3 := ha.symm.trans e
        cases e3
        exact e2
end
/-- a law whose def is a PromG -/
theorem walk_ofG {l : PySem.W.OpenLaw} {n k : Nat} {q : Program} {loose : List Str} {XP : (Str → Option Value) → Heap → Prop} {YP : World → Heap → Prop} {d : DefRec} {x : Str}
    (hn : l.most = some n) (hn2 : n ≤ sizeLine) (hdf : d.params.defaults = []) (room : Room k callerA)
    (F : ∀ (w : World) (mg : Str → Option Value) (fa : Addr) (h : Heap), YP w h → h.Ns mainGlobals mg → mg d.name = some (.ref fa) →
      ∃ (K : PySem.W.Frag) (fd : FuncData) (sp : Sp), K.In h ∧ (∀ (s : Shared) (u : Value), BindsTo s fd ⟨[u], []⟩ [(x, u)]) ∧
        (∀ (H : Hp) (a : Addr) (ns : List Int), ns.length ≤ n → (∀ z ∈ ns, Builtin.Int.intBits z ≤ 1048576) → SqL K H a (ns.map V.int) → sp [.ref a] H (fun v _ => v = .bl true) fun _ _ _ => False) ∧
        ∀ base : Heap, K.In base → base.Ns mainGlobals mg → FnG l.prog w K mg base k fa fd [x] sp) :
    PySem.W.WalkO q loose XP YP l.row.toRowW d [] (fun f vs => PySem.call f vs) := by
  refine Att.attach_callB hn hdf fun w sA sB mg mb fa o pm cd doc a vs ns G Y ho hd hcd hmg hobj hints hlen hbits hg => ?_
  obtain ⟨K, fd, sp, KX, b1, want, hF⟩ := F w mg fa _ Y G.T.g hmg
  exact law_callG KX G.T.g G.T.b G.T.builtins G.T.nolimit hg hobj hints (Nat.le_trans hlen hn2) room hF b1 (fun H hS => want H a ns hlen hbits hS)
end Sz
namespace Sz
/-! ### powers -/
theorem pow_pos {b : Int} (hb : 1 ≤ b) : ∀ j : Nat, 1 ≤ b ^ j
  | 0 => by rw [Int.pow_zero]; exact Int.le_refl 1
  | j + 1 => by
    rw [Int.pow_succ]
    have ih := pow_pos hb j
    have h := Int.mul_le_mul ih hb (by omega) (by omega)
    omega
theorem pow_one (b : Int) : b ^ (0 + 1) = b := by rw [Int.pow_succ, Int.pow_zero, Int.one_mul]
theorem pow_step {b : Int} (hb : 1 ≤ b) (j : Nat) : b ^ j ≤ b ^ (j + 1) := by
  rw [Int.pow_succ]
  have h := Int.mul_le_mul_of_nonneg_left hb (show 0 ≤ b ^ j by have := pow_pos hb j; omega)
  omega
theorem pow_mono {b : Int} (hb : 1 ≤ b) {i : Nat} : ∀ {j : Nat}, i ≤ j → b ^ i ≤ b ^ j
  | 0, h => by
    have e : i = 0 := by omega
    rw [e]
    exact Int.le_refl _
  | j + 1, h => by
    by_cases e : i = j + 1
    · rw [e]
      exact Int.le_refl _
    · exact Int.le_trans (pow_mono hb (j := j) (by omega)) (pow_step hb j)
theorem pow_lt {b : Int} (hb : 2 ≤ b) (j : Nat) : b ^ j < b ^ (j + 1) := by
  rw [Int.pow_succ]
  have h1 := pow_pos (show 1 ≤ b by omega) j
  have h := Int.mul_le_mul_of_nonneg_left hb (show 0 ≤ b ^ j by omega)
  omega
/-- an integer is below the power with its own number -/
theorem lt_pow {b : Int} (hb : 2 ≤ b) : ∀ j : Nat, (j : Int) < b ^ j
  | 0 => by rw [Int.pow_zero]; decide
  | j + 1 => by
    have h1 := lt_pow hb j
    have h2 := pow_lt hb j
    omega
/-! ### figures -/
/-- k is the number of figures of n in the base b -/
def IsF (b n k : Int) : Prop := ∃ j : Nat, k = (j : Int) + 1 ∧ n < b ^ (j + 1) ∧ (j = 0 ∨ b ^ j ≤ n)
theorem isF_le {b n m k l : Int} (hb : 2 ≤ b) (h : n ≤ m) (hk : IsF b n k) (hl : IsF b m l) : k ≤ l := by
  obtain ⟨i, rfl, h1, h2⟩ := hk
  obtain ⟨j, rfl, h3, h4⟩ := hl
  by_cases c : i ≤ j
  · omega
  · rcases h2 with h2 | h2
    · omega
    · have h5 := pow_mono (show 1 ≤ b by omega) (show j + 1 ≤ i by omega)
      omega
theorem isF_eq {b n k l : Int} (hb : 2 ≤ b) (hk : IsF b n k) (hl : IsF b n l) : k = l :=
  Int.le_antisymm (isF_le hb (Int.le_refl n) hk hl) (isF_le hb (Int.le_refl n) hl hk)
theorem isF_pos {b n k : Int} (h : IsF b n k) : 1 ≤ k := by
  obtain ⟨j, rfl, _⟩ := h
  omega
/-- there is such a number -/
theorem isF_ex {b : Int} (hb : 2 ≤ b) (n : Int) : ∃ k, IsF b n k := by
  have key : ∀ m : Nat, ∀ n : Int, n < b ^ (m + 1) → ∃ k, IsF b n k := by
    intro m
    induction m with
    | zero => exact fun n h => ⟨1, 0, rfl, h, .inl rfl⟩
    | succ m ih =>
      intro n h
      by_cases c : n < b ^ (m + 1)
      · exact ih n c
      · exact ⟨(m + 1 : Nat) + 1, m + 1, rfl, h, .inr (by omega)⟩
  refine key n.toNat n ?_
  have h1 := lt_pow hb (n.toNat + 1)
  omega
/-- a bound for the figures -/
theorem isF_bound {b n k : Int} (hb : 2 ≤ b) (m : Nat) (hn : n < 2 ^ m) (h : IsF b n k) : k ≤ (m : Int) + 1 := by
  obtain ⟨j, rfl, h1, h2⟩ := h
  rcases h2 with h2 | h2
  · omega
  · by_cases c : j ≤ m
    · omega
    · exfalso
      have h3 : (2 : Int) ^ j ≤ b ^ j := by
        clear h1 h2 c
        induction j with
        | zero => rw [Int.pow_zero, Int.pow_zero]; exact Int.le_refl 1
        | succ j ih =>
          rw [Int.pow_succ, Int.pow_succ]
          exact Int.mul_le_mul ih hb (by decide) (by have := pow_pos (show 1 ≤ b by omega) j; omega)
      have h4 := pow_mono (show (1 : Int) ≤ 2 by decide) (show m ≤ j by omega)
      omega
end Sz
namespace Sz
/-! ### totals that count their own figures -/
theorem isF_upper {b x g : Int} (hb : 2 ≤ b) {m : Nat} (h : x < b ^ (m + 1)) (hg : IsF b x g) : g ≤ (m : Int) + 1 := by
  obtain ⟨i, rfl, h1, h2⟩ := hg
  by_cases c : i ≤ m
  · omega
  · rcases h2 with h2 | h2
    · omega
    · have := pow_mono (show 1 ≤ b by omega) (show m + 1 ≤ i by omega)
      omega
/-- adding its figures to a number makes one figure more at most -/
theorem fig_grow {b n f g : Int} (hb : 2 ≤ b) (hn : 0 ≤ n) (hf : IsF b n f) (hg : IsF b (n + f) g) : g = f ∨ g = f + 1 := by
  have h1 := isF_le hb (show n ≤ n + f by have := isF_pos hf; omega) hf hg
  obtain ⟨j, rfl, h2, h3⟩ := hf
  have h4 := lt_pow hb (j + 1)
  have h5 : b ^ (j + 1 + 1) = b ^ (j + 1) * b := Int.pow_succ b (j + 1)
  have h6 := Int.mul_le_mul_of_nonneg_left hb (show 0 ≤ b ^ (j + 1) by omega)
  have h7 := isF_upper (m := j + 1) hb (show n + ((j : Int) + 1) < b ^ (j + 1 + 1) by omega) hg
  omega
/-- and then this is the number of figures -/
theorem fig_next {b n f : Int} (hb : 2 ≤ b) (hn : 0 ≤ n) (hf : IsF b n f) (hg : IsF b (n + f) (f + 1)) : IsF b (n + f + 1) (f + 1) := by
  obtain ⟨j, rfl, h2, h3⟩ := hf
  obtain ⟨i, e, h4, h5⟩ := hg
  have e2 : i = j + 1 := by omega
  subst e2
  have h6 := lt_pow hb (j + 1)
  have h7 : b ^ (j + 1 + 1) = b ^ (j + 1) * b := Int.pow_succ b (j + 1)
  have h8 := Int.mul_le_mul_of_nonneg_left hb (show 0 ≤ b ^ (j + 1) by omega)
  refine ⟨j + 1, by omega, by omega, Or.inr ?_⟩
  rcases h5 with h5 | h5
  · omega
  · omega
/-- s is a total of N -/
def Tot (b N s : Int) : Prop := IsF b s (s - N)
structure IsTot (b N s : Int) : Prop where
  tot : Tot b N s
  least : ∀ t, Tot b N t → s ≤ t
theorem isTot_pos {b N s : Int} (h : Tot b N s) : N + 1 ≤ s := by
  have := isF_pos h
  omega
theorem isTot_first {b n f : Int} (hb : 2 ≤ b) (hf : IsF b n f) (hg : IsF b (n + f) f) : IsTot b n (n + f) := by
  refine ⟨?_, fun t ht => ?_⟩
  · have e : n + f - n = f := by omega
    show IsF b (n + f) (n + f - n)
    rw [e]
    exact hg
  · have h1 := isTot_pos ht
    have h2 := isF_le hb (show n ≤ t by omega) hf ht
    omega
theorem isTot_second {b n f : Int} (hb : 2 ≤ b) (hn : 0 ≤ n) (hf : IsF b n f) (hg : IsF b (n + f) (f + 1)) : IsTot b n (n + f + 1) := by
  refine ⟨?_, fun t ht => ?_⟩
  · have e : n + f + 1 - n = f + 1 := by omega
    show IsF b (n + f + 1) (n + f + 1 - n)
    rw [e]
    exact fig_next hb hn hf hg
  · have h1 := isTot_pos ht
    have h2 := isF_le hb (show n ≤ t by omega) hf ht
    by_cases c : t = n + f
    · subst c
      have ht2 : IsF b (n + f) (n + f - n) := ht
      have e : n + f - n = f := by omega
      rw [e] at ht2
      have := isF_eq hb ht2 hg
      omega
    · omega
theorem isTot_eq {b N s t : Int} (h : IsTot b N s) (h2 : IsTot b N t) : s = t := Int.le_antisymm (h.least t h2.tot) (h2.least s h.tot)
/-- two totals lie beside one another -/
theorem tot_near {b N s t : Int} (hb : 2 ≤ b) (hN : 0 ≤ N) (h : Tot b N s) (h2 : Tot b N t) (hst : s ≤ t) : t ≤ s + 1 := by
  obtain ⟨i, e1, h3, h4⟩ := h
  obtain ⟨j, e2, h5, h6⟩ := h2
  by_cases c : t ≤ s + 1
  · exact c
  · exfalso
    have hj : b ^ j ≤ t := by
      rcases h6 with h6 | h6
      · omega
      · exact h6
    obtain ⟨m, hm⟩ : ∃ m : Nat, j = i + 1 + (m + 1) := ⟨j - i - 2, by omega⟩
    have e3 : b ^ j = b ^ (i + 1) * b ^ (m + 1) := by rw [hm, Int.pow_add]
    have p1 := pow_pos (show 1 ≤ b by omega) (i + 1)
    have p0 : 2 ≤ b ^ (i + 1) := by
      have := pow_mono (show 1 ≤ b by omega) (show 0 + 1 ≤ i + 1 by omega)
      rw [pow_one] at this
      omega
    have l1 := lt_pow hb (m + 1)
    have l2 := Int.mul_le_mul_of_nonneg_left (show ((m + 1 : Nat) : Int) + 1 ≤ b ^ (m + 1) by omega) (show 0 ≤ b ^ (i + 1) by omega)
    have l3 : b ^ (i + 1) * (((m + 1 : Nat) : Int) + 1) = b ^ (i + 1) * ((m + 1 : Nat) : Int) + b ^ (i + 1) := by rw [Int.mul_add, Int.mul_one]
    have l4 := Int.mul_le_mul_of_nonneg_right p0 (show 0 ≤ ((m + 1 : Nat) : Int) by omega)
    omega
/-- whether the next integer is a total, too -/
theorem tot_two {b N s g h : Int} (hb : 2 ≤ b) (ht : Tot b N s) (hg : IsF b s g) (hh : IsF b (s + 1) h) : (h > g ↔ Tot b N (s + 1)) := by
  have e1 : g = s - N := isF_eq hb hg ht
  constructor
  · intro c
    have h1 : h = g + 1 := by
      obtain ⟨j, rfl, h2, h3⟩ := hg
      have h4 := isF_upper (m := j + 1) hb (show s + 1 < b ^ (j + 1 + 1) by have := pow_lt hb (j + 1); omega) hh
      omega
    show IsF b (s + 1) (s + 1 - N)
    have e2 : s + 1 - N = h := by omega
    rw [e2]
    exact hh
  · intro c
    have e2 : h = s + 1 - N := isF_eq hb hh c
    omega
theorem isTot_ex {b n : Int} (hb : 2 ≤ b) (hn : 0 ≤ n) : ∃ s, IsTot b n s := by
  obtain ⟨f, hf⟩ := isF_ex hb n
  obtain ⟨g, hg⟩ := isF_ex hb (n + f)
  rcases fig_grow hb hn hf hg with e | e
  · exact ⟨_, isTot_first hb hf (by rw [← e]; rw [e] at hg ⊢; exact hg)⟩
  · exact ⟨_, isTot_second hb hn hf (by rw [← e]; exact hg)⟩
theorem pow_add_le {b : Int} (hb : 2 ≤ b) (j d : Nat) : b ^ j + d ≤ b ^ (j + d) := by
  induction d with
  | zero => simp
  | succ d ih =>
    have := pow_lt hb (j + d)
    have e : j + (d + 1) = j + d + 1 := by omega
    rw [e]
    omega
theorem two_mul_le {b : Int} (hb : 2 ≤ b) : ∀ j : Nat, 2 * (j : Int) ≤ b ^ j + 1
  | 0 => by simp
  | 1 => by rw [show (1 : Nat) = 0 + 1 from rfl, pow_one]; omega
  | j + 2 => by
    have h1 := two_mul_le hb (j + 1)
    have h2 : b ^ (j + 2) = b ^ (j + 1) * b := Int.pow_succ b (j + 1)
    have h3 := pow_mono (show 1 ≤ b by omega) (show 0 + 1 ≤ j + 1 by omega)
    rw [pow_one] at h3
    have h4 := Int.mul_le_mul_of_nonneg_left hb (show 0 ≤ b ^ (j + 1) by omega)
    omega
/-- the totals found ahead of the number k of figures -/
def totA (N s : Int) (two : Bool) (k : Int) : List Int := if k ≤ s - N then [] else if k = s - N + 1 ∨ two = false then [s] else [s, s + 1]
theorem totA_start {b N s : Int} {two : Bool} (h : IsTot b N s) : totA N s two 1 = [] := if_pos (by have := isTot_pos h.tot; omega)
/-- the one with k figures is a total -/
theorem totA_yes {b N s k : Int} {two : Bool} (hb : 2 ≤ b) (hN : 0 ≤ N) (h : IsTot b N s) (h2 : two = true ↔ Tot b N (s + 1)) (hk : Tot b N (N + k)) : totA N s two (k + 1) = totA N s two k ++ [N + k] := by
  have a := h.least _ hk
  have c := tot_near hb hN h.tot hk a
  by_cases e : N + k = s
  · have e1 : totA N s two k = [] := if_pos (by omega)
    have e2 : totA N s two (k + 1) = [s] := by
      unfold totA
      rw [if_neg (by omega), if_pos (Or.inl (by omega))]
    rw [e1, e2, e]
    rfl
  · have e0 : N + k = s + 1 := by omega
    have ht : two = true := h2.mpr (by rw [← e0]; exact hk)
    have e1 : totA N s two k = [s] := by
      unfold totA
      rw [if_neg (by omega), if_pos (Or.inl (by omega))]
    have e2 : totA N s two (k + 1) = [s, s + 1] := by
      unfold totA
      rw [if_neg (by omega), if_neg (by rw [ht]; simp; omega)]
    rw [e1, e2, e0]
    rfl
theorem totA_no {b N s k : Int} {two : Bool} (h : IsTot b N s) (h2 : two = true ↔ Tot b N (s + 1)) (hk : ¬ Tot b N (N + k)) : totA N s two (k + 1) = totA N s two k := by
  have e : N + k ≠ s := fun z => hk (by rw [z]; exact h.tot)
  unfold totA
  by_cases c : k ≤ s - N
  · rw [if_pos c, if_pos (by omega)]
  · rw [if_neg c, if_neg (by omega)]
    by_cases d : k = s - N + 1
    · have d0 : N + k = s + 1 := by omega
      have ht : two = false := by
        cases q : two with
        | false => rfl
        | true => exact absurd (by rw [d0]; exact h2.mp q) hk
      rw [if_pos (Or.inr ht), if_pos (Or.inr ht)]
    · by_cases ht : two = false
      · rw [if_pos (Or.inr ht), if_pos (Or.inr ht)]
      · rw [if_neg (fun z => z.elim (by omega) ht), if_neg (fun z => z.elim (by omega) ht)]
theorem totA_end {b N s : Int} {j : Nat} {two : Bool} (hb : 2 ≤ b) (hN : 0 ≤ N) (h : IsTot b N s) (h2 : two = true ↔ Tot b N (s + 1)) (hj : ¬ b ^ j ≤ N + ((j : Int) + 1)) : totA N s two ((j : Int) + 1) = if two then [s, s + 1] else [s] := by
  have far : ∀ t, Tot b N t → t - N < (j : Int) + 1 := fun t ht => by
    obtain ⟨i, e, h3, h4⟩ := ht
    by_cases c : i < j
    · omega
    · exfalso
      obtain ⟨d, hd⟩ : ∃ d, i = j + d := ⟨i - j, by omega⟩
      have h5 := pow_add_le hb j d
      rw [← hd] at h5
      rcases h4 with h4 | h4
      · have e0 : j = 0 := by omega
        rw [e0] at hj h5
        have : N + 1 ≤ t := by omega
        have e1 : d = 0 := by omega
        rw [e1] at h5
        simp at hj h5
        omega
      · omega
  have f1 := far s h.tot
  unfold totA
  rw [if_neg (by omega)]
  cases ht : two with
  | false => simp
  | true =>
    have f2 := far _ (h2.mp ht)
    rw [if_neg (by simp; omega)]
    rfl
/-- figures grow no faster than numbers -/
theorem fig_lip {b x y f g : Int} (hb : 2 ≤ b) (h : x ≤ y) (hf : IsF b x f) (hg : IsF b y g) : g ≤ f + (y - x) := by
  obtain ⟨j, rfl, h1, h2⟩ := hf
  obtain ⟨d, hd⟩ : ∃ d : Nat, y = x + d := ⟨(y - x).toNat, by omega⟩
  have h3 := pow_add_le hb (j + 1) d
  have h4 := isF_upper (m := j + d) hb (show y < b ^ (j + d + 1) by rw [show j + d + 1 = j + 1 + d by omega]; omega) hg
  omega
/-- the least total of the next one stands right behind the last total -/
theorem tot_step {b N s : Int} {two : Bool} (hb : 2 ≤ b) (hN : 0 ≤ N) (h : IsTot b N s) (h2 : two = true ↔ Tot b N (s + 1)) : IsTot b (N + 1) (s + (if two then [s, s + 1] else [s]).length) := by
  have last : ∃ e : Int, s + (if two then [s, s + 1] else [s]).length = e + 1 ∧ Tot b N e ∧ ¬ Tot b N (e + 1) := by
    cases q : two with
    | false => exact ⟨s, by simp, h.tot, fun z => by rw [q] at h2; have := h2.mpr z; cases this⟩
    | true =>
      refine ⟨s + 1, by simp; omega, h2.mp q, fun z => ?_⟩
      have := tot_near hb hN h.tot z (by omega)
      omega
  obtain ⟨e, e0, e1, e2⟩ := last
  rw [e0]
  obtain ⟨f, hf⟩ := isF_ex hb (e + 1)
  have f1 := isF_le hb (show e ≤ e + 1 by omega) e1 hf
  have f2 := fig_lip hb (show e ≤ e + 1 by omega) e1 hf
  have f3 : f ≠ e + 1 - N := fun z => e2 (by show IsF b (e + 1) (e + 1 - N); rw [← z]; exact hf)
  refine ⟨?_, fun t ht => ?_⟩
  · show IsF b (e + 1) (e + 1 - (N + 1))
    have : f = e + 1 - (N + 1) := by omega
    rw [← this]
    exact hf
  · by_cases c : e + 1 ≤ t
    · exact c
    · have := fig_lip hb (show t ≤ e by omega) ht e1
      omega
/-- the integer ahead of the least total is one of the length ahead -/
theorem tot_ahead {b N s f : Int} (hb : 2 ≤ b) (h : IsTot b N s) (hf : IsF b (s - 1) f) : s - 1 - f = N - 1 := by
  have h1 := fig_lip hb (show s - 1 ≤ s by omega) hf h.tot
  have h2 := isF_le hb (show s - 1 ≤ s by omega) hf h.tot
  have h3 : f ≠ s - 1 - N := fun z => by
    have := h.least (s - 1) (by show IsF b (s - 1) (s - 1 - N); rw [← z]; exact hf)
    omega
  omega
/-- so many integers from one on -/
def irun (s : Int) (n : Nat) : List Int := (List.range n).map fun (i : Nat) => s + (i : Int)
theorem irun_len (s : Int) (n : Nat) : (irun s n).length = n := by
  unfold irun
  simp
theorem irun_app (s : Int) (n : Nat) (two : Bool) : irun s n ++ (if two then [s + n, s + n + 1] else [s + n]) = irun s (n + (if two then [s, s + 1] else [s]).length) := by
  unfold irun
  cases two with
  | false => simp [List.range_succ]
  | true =>
    simp [List.range_succ]
    omega
/-- a total by its power -/
theorem tot_iff {b N : Int} {j : Nat} (hN : 0 ≤ N) (hj : b ^ j ≤ N + ((j : Int) + 1)) : Tot b N (N + ((j : Int) + 1)) ↔ N + ((j : Int) + 1) < b ^ (j + 1) := by
  have e : N + ((j : Int) + 1) - N = (j : Int) + 1 := by omega
  constructor
  · rintro ⟨i, e1, h1, _⟩
    have : i = j := by omega
    rw [this] at h1
    exact h1
  · intro h
    exact ⟨j, e, h, Or.inr hj⟩
end Sz
namespace Sz
/-! ### what wraps make of lengths -/
open Classical in
/-- how many figures -/
noncomputable def figF (b n : Int) : Int := if h : 2 ≤ b then choose (isF_ex h n) else 0
theorem figF_is {b n : Int} (h : 2 ≤ b) : IsF b n (figF b n) := by
  unfold figF
  rw [dif_pos h]
  exact Classical.choose_spec (isF_ex h n)
theorem figF_eq {b n k : Int} (hb : 2 ≤ b) (h : IsF b n k) : k = figF b n := isF_eq hb h (figF_is hb)
theorem figF_pos {b n : Int} (hb : 2 ≤ b) : 1 ≤ figF b n := isF_pos (figF_is hb)
theorem figF_mono {b n m : Int} (hb : 2 ≤ b) (h : n ≤ m) : figF b n ≤ figF b m := isF_le hb h (figF_is hb) (figF_is hb)
theorem figF_lip {b n m : Int} (hb : 2 ≤ b) (h : n ≤ m) : figF b m ≤ figF b n + (m - n) := fig_lip hb h (figF_is hb) (figF_is hb)
open Classical in
/-- the least total -/
noncomputable def totF (b n : Int) : Int := if h : 2 ≤ b ∧ 0 ≤ n then choose (isTot_ex h.1 h.2) else 0
theorem totF_is {b n : Int} (h : 2 ≤ b) (h2 : 0 ≤ n) : IsTot b n (totF b n) := by
  unfold totF
  rw [dif_pos ⟨h, h2⟩]
  exact Classical.choose_spec (isTot_ex h h2)
theorem totF_eq {b n k : Int} (hb : 2 ≤ b) (hn : 0 ≤ n) (h : IsTot b n k) : k = totF b n := isTot_eq h (totF_is hb hn)
/-- how many parts of a size a length begins -/
def beg (n m : Int) : Int := (n + m - 1) / m
inductive Wr where
  | plus (c : Int)
  | told (c : Int)
  | whole (c : Int)
  | pieces (m c : Int)
  | cut (m c : Int)
  | coded (m c : Int)
  | filled (m : Int)
def Wr.kind : Wr → PySem.Str
  | .plus _ => "plus"
  | .told _ => "told"
  | .whole _ => "whole"
  | .pieces _ _ => "pieces"
  | .cut _ _ => "cut"
  | .coded _ _ => "coded"
  | .filled _ => "filled"
def Wr.nums : Wr → List Int
  | .plus c => [c]
  | .told c => [c]
  | .whole c => [c]
  | .pieces m c => [m, c]
  | .cut m c => [m, c]
  | .coded m c => [m, c]
  | .filled m => [m]
def Wr.rng : Wr → List (Int × Int)
  | .plus _ => [(0, 1000)]
  | .told _ => [(0, 1000)]
  | .whole _ => [(0, 1000)]
  | .pieces _ _ => [(1, 60), (0, 60)]
  | .cut _ _ => [(1, 60), (0, 60)]
  | .coded _ _ => [(1, 60), (1, 120)]
  | .filled _ => [(1, 60)]
def Wr.ok : Wr → Prop
  | .plus c => 0 ≤ c ∧ c ≤ 1000
  | .told c => 0 ≤ c ∧ c ≤ 1000
  | .whole c => 0 ≤ c ∧ c ≤ 1000
  | .pieces m c => 1 ≤ m ∧ m ≤ 60 ∧ 0 ≤ c ∧ c ≤ 60
  | .cut m c => 1 ≤ m ∧ m ≤ 60 ∧ 0 ≤ c ∧ c ≤ 60
  | .coded m c => 1 ≤ m ∧ m ≤ 60 ∧ m ≤ c ∧ c ≤ 120
  | .filled m => 1 ≤ m ∧ m ≤ 60
/-- the size that a wrap makes of a length -/
noncomputable def Wr.gr (b : Int) : Wr → Int → Int
  | .plus c, n => n + c
  | .told c, n => n + c + figF b n
  | .whole c, n => totF b (n + c)
  | .pieces m c, n => n / m * (m + c + figF b m) + (if 0 < n % m then n % m + c + figF b (n % m) else 0) + c + 1
  | .cut m c, n => n + beg n m * c
  | .coded m c, n => beg n m * c
  | .filled m, n => beg n m * m
theorem nums_len {w : Wr} : w.nums.length = w.rng.length := by cases w <;> rfl
theorem nums_small {w : Wr} (h : w.ok) : ∀ x ∈ w.nums, 0 ≤ x ∧ x ≤ 1000 := by
  cases w <;> simp only [Wr.ok] at h <;> simp [Wr.nums] <;> omega
theorem beg_le {n m : Int} (hn : 0 ≤ n) (hm : 1 ≤ m) : beg n m ≤ n ∧ 0 ≤ beg n m := by
  unfold beg
  constructor
  · refine Int.le_of_lt_add_one (Int.ediv_lt_of_lt_mul (by omega) ?_)
    have := Int.mul_le_mul_of_nonneg_left hm (show 0 ≤ n by omega)
    have e : (n + 1) * m = n * m + m := by rw [Int.add_mul, Int.one_mul]
    omega
  · exact Int.ediv_nonneg (by omega) (by omega)
theorem fig_small {b m : Int} (hb : 2 ≤ b) (hm : m ≤ 60) : figF b m ≤ 6 := by
  have h : m < b ^ (5 + 1) := by
    have h1 := pow_pos (show 1 ≤ b by omega) 5
    have h2 : (64 : Int) ≤ b ^ 6 := by
      have : ∀ j : Nat, (2 : Int) ^ j ≤ b ^ j := fun j => by
        induction j with
        | zero => simp
        | succ j ih =>
          rw [Int.pow_succ, Int.pow_succ]
          exact Int.mul_le_mul ih hb (by decide) (by have := pow_pos (show 1 ≤ b by omega) j; omega)
      have := this 6
      omega
    show m < b ^ 6
    omega
  have := isF_upper (m := 5) hb h (figF_is hb)
  omega
theorem figF_le {b n : Int} (hb : 2 ≤ b) (hn : 0 ≤ n) : figF b n ≤ n + 1 := by
  have h1 := figF_lip (b := b) hb hn
  have h2 : figF b 0 ≤ 1 := by
    have := isF_upper (m := 0) hb (show (0 : Int) < b ^ (0 + 1) by rw [pow_one]; omega) (figF_is hb)
    omega
  omega
/-- a size is no less than 0, and not too great -/
theorem gr_le {b : Int} {w : Wr} (hb : 2 ≤ b) (h : w.ok) {n : Int} (hn : 0 ≤ n) : 0 ≤ w.gr b n ∧ w.gr b n ≤ 128 * n + 4096 := by
  cases w with
  | plus c =>
    simp only [Wr.ok] at h
    simp only [Wr.gr]
    omega
  | told c =>
    simp only [Wr.ok] at h
    simp only [Wr.gr]
    have h1 := figF_le (b := b) hb hn
    have h2 := figF_pos (b := b) (n := n) hb
    omega
  | whole c =>
    simp only [Wr.ok] at h
    simp only [Wr.gr]
    have t := totF_is hb (show 0 ≤ n + c by omega)
    have h1 := isTot_pos t.tot
    have f := figF_is (b := b) (n := n + c) hb
    have g := figF_is (b := b) (n := n + c + figF b (n + c)) hb
    have fl := figF_le (b := b) (n := n + c) hb (by omega)
    rcases fig_grow hb (show 0 ≤ n + c by omega) f g with e | e
    · have := t.least _ (isTot_first hb f (by rw [e] at g; exact g)).tot
      omega
    · have := t.least _ (isTot_second hb (show 0 ≤ n + c by omega) f (by rw [← e]; exact g)).tot
      omega
  | pieces m c =>
    simp only [Wr.ok] at h
    simp only [Wr.gr]
    have f1 := fig_small (b := b) (m := m) hb h.2.1
    have f2 := figF_pos (b := b) (n := m) hb
    have q0 := Int.ediv_nonneg hn (show 0 ≤ m by omega)
    have q1 : n / m ≤ n := Int.ediv_le_self _ hn
    have r0 := Int.emod_nonneg n (show m ≠ 0 by omega)
    have r1 := Int.emod_lt_of_pos n (show 0 < m by omega)
    have f3 := fig_small (b := b) (m := n % m) hb (by omega)
    have f4 := figF_pos (b := b) (n := n % m) hb
    have p0 := Int.mul_nonneg q0 (show 0 ≤ m + c + figF b m by omega)
    have p1 := Int.mul_le_mul q1 (show m + c + figF b m ≤ 126 by omega) (by omega) hn
    split <;> omega
  | cut m c =>
    simp only [Wr.ok] at h
    simp only [Wr.gr]
    have q := beg_le hn h.1
    have p0 := Int.mul_nonneg q.2 (show 0 ≤ c by omega)
    have p1 := Int.mul_le_mul q.1 (show c ≤ 60 by omega) (by omega) hn
    omega
  | coded m c =>
    simp only [Wr.ok] at h
    simp only [Wr.gr]
    have q := beg_le hn h.1
    have p0 := Int.mul_nonneg q.2 (show 0 ≤ c by omega)
    have p1 := Int.mul_le_mul q.1 (show c ≤ 120 by omega) (by omega) hn
    omega
  | filled m =>
    simp only [Wr.ok] at h
    simp only [Wr.gr]
    have q := beg_le hn h.1
    have p0 := Int.mul_nonneg q.2 (show 0 ≤ m by omega)
    have p1 := Int.mul_le_mul q.1 (show m ≤ 60 by omega) (by omega) hn
    omega
end Sz
/-! a hook that looks at whatever one wants besides, and the table of ranges -/
namespace Sz
open PySem PySem.Spec PyProof.Rows L2
abbrev AlX : Type := Bool × He.AlT
/-- what an object names, its class's line left out: what the module names is there already -/
def refsX (o : Obj) : List Addr := match o.data with
  | .seq its _ => its.toList.flatMap He.refV
  | .dict es _ => es.toList.flatMap fun e => He.refV e.val
  | .func fd => He.refV fd.code ++ (He.refV fd.defaults ++ (He.refV fd.kwdefaults ++ fd.closure.map (·.2)))
  | .cls cd => [cd.ns]
  | .fields vs => vs.toList.flatMap He.refV
  | .cell (some v) => He.refV v
  | _ => []
def layerX (g : Addr → Option Obj) (as : List Addr) : List Addr := as.flatMap fun a => match g a with
  | some o => refsX o
  | none => []
/-- layer by layer, nothing looked at twice -/
def layersX (g : Addr → Option Obj) : Nat → List Addr → List Addr
  | 0, l => l
  | n + 1, l => l ++ layersX g n (layerX g l)
def asX (g : Addr → Option Obj) (n : Nat) : List Addr := layersX g n [mainGlobals]
def obsX (fb : PySem.W.Frag → Bool) (fa : List He.Fa) (fn : List He.DefD) (ts : List He.Tab) (K : PySem.W.Frag) : AlX := (fb K, He.obsT fa fn ts K)
def valX (fn : List He.DefD) (ts : List He.Tab) (w : World) : AlX := (true, He.valT fn ts w)
def obsXG (n : Nat) (fb : PySem.W.Frag → Bool) (fa : List He.Fa) (fn : List He.DefD) (ts : List He.Tab) (g : Addr → Option Obj) : AlX := obsX fb fa fn ts (He.frG g (asX g n))
def SaysX (fb : PySem.W.Frag → Bool) (fa : List He.Fa) (fn : List He.DefD) (ts : List He.Tab) (w : World) (K : PySem.W.Frag) : Prop := obsX fb fa fn ts K = valX fn ts w
def hookX (n : Nat) (fb : PySem.W.Frag → Bool) (fa : List He.Fa) (fn : List He.DefD) (ts : List He.Tab) : PySem.W.Hook where
  α := AlX
  obs := fun s => obsXG n fb fa fn ts s.heap.get?
  val := fun w => valX fn ts w
  says := fun w h => ∃ K : PySem.W.Frag, K.In h ∧ SaysX fb fa fn ts w K
  of := fun _ _ e => ⟨_, He.frG_in, e⟩
  keeps := fun _ _ _ ⟨K, hK, c⟩ k => ⟨K, PySem.W.Frag.In.keeps hK k, c⟩
theorem obsXG_eq {n : Nat} {fb : PySem.W.Frag → Bool} {fa : List He.Fa} {fn : List He.DefD} {ts : List He.Tab} {g : Addr → Option Obj} {s : Shared} (h : ∀ a, g a = s.heap.get? a) : obsXG n fb fa fn ts g = (hookX n fb fa fn ts).obs s := by
  rw [show g = s.heap.get? from funext h]
  rfl
section
variable {fb : PySem.W.Frag → Bool} {fa : List He.Fa} {fn : List He.DefD} {ts : List He.Tab} {w : World} {K : PySem.W.Frag}
theorem SaysX.t (c : SaysX fb fa fn ts w K) : He.SaysT fa fn ts w K := congrArg (fun z : AlX => z.2) c
theorem SaysX.b (c : SaysX fb fa fn ts w K) : fb K = true := congrArg (fun z : AlX => z.1) c
end
/-! ### the table of ranges: tuples of pairs -/
def pairB (K : PySem.W.Frag) (u : Value) (q : Int × Int) : Bool := match u with
  | .ref a => (match K.lookup a with
    | some ⟨.type c, _, .seq its _, _⟩ => decide (c = "tuple") && (decide (its.size ≤ sizeLine) && He.relAll [.int q.1, .int q.2] its.toList)
    | _ => false)
  | _ => false
def pairsB (K : PySem.W.Frag) : List Value → List (Int × Int) → Bool
  | [], [] => true
  | u :: us, q :: qs => pairB K u q && pairsB K us qs
  | _, _ => false
def rngB (K : PySem.W.Frag) (D : Addr) (kd : Str) (qs : List (Int × Int)) : Bool := match PySem.W.nsIn K D kd with
  | some (some (.ref b)) => (match K.lookup b with
    | some ⟨.type c, _, .seq its _, _⟩ => decide (c = "tuple") && (decide (its.size ≤ sizeLine) && pairsB K its.toList qs)
    | _ => false)
  | _ => false
inductive Pairs (K : PySem.W.Frag) : List V → List (Int × Int) → Prop where
  | nil : Pairs K [] []
  | cons {a : Addr} {xs : List V} {q : Int × Int} {qs : List (Int × Int)} (h : ∀ H, SqT K H a [.int q.1, .int q.2]) (r : Pairs K xs qs) : Pairs K (.ref a :: xs) (q :: qs)
theorem Pairs.len {K : PySem.W.Frag} {xs : List V} {qs : List (Int × Int)} (h : Pairs K xs qs) : xs.length = qs.length := by
  induction h with
  | nil => rfl
  | cons _ _ ih => exact congrArg (· + 1) ih
theorem Pairs.get {K : PySem.W.Frag} {xs : List V} {qs : List (Int × Int)} (h : Pairs K xs qs) : ∀ {i : Nat} {x : V}, xs[i]? = some x → ∃ (a : Addr) (q : Int × Int), x = .ref a ∧ qs[i]? = some q ∧ ∀ H, SqT K H a [.int q.1, .int q.2] := by
  induction h with
  | nil =>
    intro i x e
    simp at e
  | cons h _ ih =>
    intro i x e
    cases i with
    | zero =>
      simp at e
      exact ⟨_, _, e.symm, rfl, h⟩
    | succ i => exact ih (by simpa using e)
theorem pairB_ok {K : PySem.W.Frag} {u : Value} {q : Int × Int} (h : pairB K u q = true) : ∃ a, u = .ref a ∧ ∀ H, SqT K H a [.int q.1, .int q.2] := by
  cases u with
  | ref a =>
    refine ⟨a, rfl, fun H => ?_⟩
    have h : (match K.lookup a with
      | some ⟨.type c, _, .seq its _, _⟩ => decide (c = "tuple") && (decide (its.size ≤ sizeLine) && He.relAll [.int q.1, .int q.2] its.toList)
      | _ => false) = true := h
    cases e : K.lookup a with
    | none =>
      rw [e] at h
      cases h
    | some o =>
      obtain ⟨oc, od, dt, osl⟩ := o
      rw [e] at h
      cases oc with
      | type c =>
        cases dt with
        | seq its n =>
          obtain ⟨h1, h2⟩ := He.ba h
          obtain ⟨h3, h4⟩ := He.ba h2
          exact .inr ⟨_, its, n, e, congrArg Value.type (of_decide_eq_true h1), rfl, of_decide_eq_true h3, He.relAll_ok h4⟩
        | _ => cases h
      | _ => cases dt <;> cases h
  | _ => cases h
theorem pairsB_ok {K : PySem.W.Frag} : ∀ {us : List Value} {qs : List (Int × Int)}, pairsB K us qs = true → ∃ xs, Vals xs us ∧ Pairs K xs qs
  | [], [], _ => ⟨[], .nil, .nil⟩
  | [], _ :: _, h => by cases h
  | _ :: _, [], h => by cases h
  | u :: us, q :: qs, h => by
    obtain ⟨h1, h2⟩ := He.ba (show (pairB K u q && pairsB K us qs) = true from h)
    obtain ⟨a, rfl, ha⟩ := pairB_ok h1
    obtain ⟨xs, r, p⟩ := pairsB_ok h2
    exact ⟨.ref a :: xs, .cons rfl r, .cons ha p⟩
/-- the kind kd has these ranges -/
def Rng (K : PySem.W.Frag) (D : Addr) (kd : Str) (qs : List (Int × Int)) : Prop := ∃ b xs, PySem.W.nsIn K D kd = some (some (.ref b)) ∧ (∀ H, SqT K H b xs) ∧ Pairs K xs qs
theorem rngB_ok {K : PySem.W.Frag} {D : Addr} {kd : Str} {qs : List (Int × Int)} (h : rngB K D kd qs = true) : Rng K D kd qs := by
  unfold rngB at h
  cases e : PySem.W.nsIn K D kd with
  | none =>
    rw [e] at h
    cases h
  | some r =>
    rw [e] at h
    cases r with
    | none => cases h
    | some u =>
      cases u with
      | ref b =>
        have h : (match K.lookup b with
          | some ⟨.type c, _, .seq its _, _⟩ => decide (c = "tuple") && (decide (its.size ≤ sizeLine) && pairsB K its.toList qs)
          | _ => false) = true := h
        cases e2 : K.lookup b with
        | none =>
          rw [e2] at h
          cases h
        | some o =>
          obtain ⟨oc, od, dt, osl⟩ := o
          rw [e2] at h
          cases oc with
          | type c =>
            cases dt with
            | seq its n =>
              obtain ⟨h1, h2⟩ := He.ba h
              obtain ⟨h3, h4⟩ := He.ba h2
              obtain ⟨xs, r, p⟩ := pairsB_ok h4
              exact ⟨b, xs, e, fun H => .inr ⟨_, its, n, e2, congrArg Value.type (of_decide_eq_true h1), rfl, of_decide_eq_true h3, r⟩, p⟩
            | _ => cases h
          | _ => cases dt <;> cases h
      | _ => cases h
/-- RANGES[kind] -/
theorem ix_kd {X : Cx} {d : Addr} {es : Array DictEntry} {n : Nat} (D : KDict X.K X.w d es n) : True := trivial
end Sz
/-! own classes: methods and makers by their promises -/
namespace Sz
open PySem PySem.Spec PyProof.Rows L2
/-- a method's def by its class -/
def DefAtM (K : PySem.W.Frag) (C m q : Str) (st : Stmt) : Prop := ∃ fd, FunD K m q (defArgs st) (defBody st) (defScope st) [] [] (He.ma K (He.ga K C) m) fd
/-- the method m of C keeps the promise sp (the receiver stands first) -/
structure PromM (P : Program) (w : World) (K : PySem.W.Frag) (mg : Str → Option Value) (base : Heap) (CX : CXT) (k : Nat) (C m : Str) (ps : List Str) (sp : Sp) : Prop where
  cl : Cls K (He.ga K C)
  me : Meth K (He.ga K C) m (He.ma K (He.ga K C) m)
  ex : ∃ fd, FnOk P w K mg base CX k (He.ma K (He.ga K C) m) fd ps sp ∧ Binds K fd ps []
/-- C(..) keeps the promise sp: what is told of the values handed in -/
structure PromC (P : Program) (w : World) (K : PySem.W.Frag) (mg : Str → Option Value) (base : Heap) (CX : CXT) (k : Nat) (C : Str) (sp : Sp) : Prop where
  make : Mk K (He.ga K C) (He.ma K (He.ga K C) "__init__")
  mg_ : mg C = some (.ref (He.ga K C))
  ex : ∃ sp0, FnR P w K mg base CX k (He.ma K (He.ga K C) "__init__") sp0 ∧ ∀ vs H Q E, sp vs H Q E → ∀ x dx, H x = none → H dx = none → dx ≠ x →
    sp0 (V.ref x :: vs) (upd (upd H dx (.own x)) x (.ins (He.ga K C) dx [])) (fun v H2 => v = .non ∧ Q (.ref x) H2) E
section
variable {P : Program} {w : World} {K : PySem.W.Frag} {mg : Str → Option Value} {base : Heap}
theorem PromM.of {C m q : Str} {st : Stmt} {ps N : List Str} {sp : Sp} {k : Nat} (cl : Cls K (He.ga K C)) (me : Meth K (He.ga K C) m (He.ma K (He.ga K C) m)) (D : DefAtM K C m q st) (S : FnScope N ps (defScope st)) (len : ∀ vs H Q E, sp vs H Q E → vs.length = ps.length)
    (hb : ∀ (kV doc pm : Value) (an : Option Addr) (cdv ct : Value) (us : List Value), us.length = ps.length → bindArgs (PySem.W.fnOf m q (defArgs st) (defBody st) (defScope st) .none kV doc pm an cdv ct) ⟨us, []⟩ = pure (ps.zip us))
    (hbody : ∀ (f : Addr) (cdv : Value) (A : Around) (outer : List Env) (s : Shared) (H : Hp) (vs : List V) (Q : VK) (E : XK), Room k (A.deeper (envOfC q (defScope st) s.heap.objs.size f cdv)) → sp vs H Q E →
      ∃ t, PSs (cxOf CX0 P w K mg base N q (defScope st) f cdv A outer s H E).nox (defBody st) t ∧ t { nx := fun _ H' => Q .non H', rt := Q } (start N vs) H) :
    PromM P w K mg base CX0 (k + 1) C m ps sp := by
  obtain ⟨fd, F⟩ := D
  refine ⟨cl, me, fd, F.ok S len (fun cdv A outer s H vs Q E hr hs => ?_), F.bindsN hb⟩
  obtain ⟨t, h1, h2⟩ := hbody _ cdv A outer s H vs Q E hr hs
  exact ⟨t, h1.nox, h2⟩
/-- a class whose __init__ takes (self, one, *rest) -/
theorem PromC.star {C q p0 p1 pv : Str} {st : Stmt} {N : List Str} {sp sp0 : Sp} {k : Nat} (mk : Mk K (He.ga K C) (He.ma K (He.ga K C) "__init__")) (hm : mg C = some (.ref (He.ga K C))) (D : DefAtM K C "__init__" q st) (S : FnScope N [p0, p1, pv] (defScope st))
    (h0 : ∀ (kV doc pm : Value) (an : Option Addr) (cdv ct a b : Value), bindArgs (PySem.W.fnOf "__init__" q (defArgs st) (defBody st) (defScope st) .none kV doc pm an cdv ct) ⟨[a, b], []⟩ = (newTuple [] >>= fun t => pure [(p0, a), (p1, b), (pv, t)]))
    (h1 : ∀ (kV doc pm : Value) (an : Option Addr) (cdv ct a b r : Value) (rs : List Value), bindArgs (PySem.W.fnOf "__init__" q (defArgs st) (defBody st) (defScope st) .none kV doc pm an cdv ct) ⟨a :: b :: r :: rs, []⟩ = (newTuple (r :: rs) >>= fun t => pure [(p0, a), (p1, b), (pv, t)]))
    (hbody : ∀ (f : Addr) (cdv : Value) (A : Around) (outer : List Env) (s : Shared) (H : Hp) (vs : List V) (Q : VK) (E : XK), Room k (A.deeper (envOfC q (defScope st) s.heap.objs.size f cdv)) → sp0 vs H Q E →
      ∃ t, PSs (cxOf CX0 P w K mg base N q (defScope st) f cdv A outer s H E).nox (defBody st) t ∧ t { nx := fun _ H' => Q .non H', rt := Q } (start N vs) H)
    (hsp : ∀ vs H Q E, sp vs H Q E → ∃ v rest, vs = v :: rest ∧ rest.length ≤ sizeLine ∧ ∀ x dx p, H x = none → H dx = none → dx ≠ x → p ≠ x → p ≠ dx → H p = none →
      sp0 [.ref x, v, .ref p] (upd (upd (upd H dx (.own x)) x (.ins (He.ga K C) dx [])) p (.tup rest)) (fun u H2 => u = .non ∧ Q (.ref x) H2) E) :
    PromC P w K mg base CX0 (k + 1) C sp := by
  obtain ⟨fd, F⟩ := D
  obtain ⟨oc, od, dV, kV, doc, pm, an, cdv, ct, osl, rfl, lk, hcd, hD, hK⟩ := F.ex
  rcases hD with ⟨_, rfl⟩ | ⟨e, _⟩
  · refine ⟨mk, hm, _, StX.fn_star (ps := [p0, p1]) (pv := pv) (sp := sp0) lk hcd S StX.cxUp_none (StX.bind_star2 (B := fun us => bindArgs _ ⟨us, []⟩) (fun a b => h0 kV doc pm an cdv ct a b) fun a b r rs => h1 kV doc pm an cdv ct a b r rs) (fun A outer s H vs Q E hr hs => ?_), fun vs H Q E hs x dx hx hdx ne => ?_⟩
    · obtain ⟨t, h1, h2⟩ := hbody _ cdv A outer s H vs Q E hr hs
      exact ⟨t, h1.nox, h2⟩
    · obtain ⟨v, rest, rfl, hl, hq⟩ := hsp vs H Q E hs
      refine ⟨[.ref x, v], rest, rfl, rfl, hl, fun p hp => ?_⟩
      have nx : p ≠ x := fun z => by rw [z, upd_same] at hp; cases hp
      rw [upd_ne nx] at hp
      have nd : p ≠ dx := fun z => by rw [z, upd_same] at hp; cases hp
      rw [upd_ne nd] at hp
      exact hq x dx p hx hdx ne nx nd hp
  · exact absurd rfl e
end
section
variable {X : Cx} {CX : CXT} {k : Nat} {x C m : Str} {ps : List Str} {sp : Sp} {E : XK} {e o : Expr} {es : List Expr} {ta : TE} {t : TA} {p pos apos : Pos}
theorem pe_methP {pl : Sem Bool} (G : PromM X.prog X.w X.K X.mg X.base CX k C m ps sp) (hr : Room k X.A) (hx : Passes CX X E) (he : PE X o ta) (ha : PA X (e :: es) t)
    (hst : starEach (e :: es) X.env = (false, eval e X.env) :: starEach es X.env := by rfl) (hpl : (backTo pos (starEach es X.env)).any (·.1) = false := by rfl)
    (ht : eval (.Call (.Attribute o m apos) (e :: es) [] pos) X.env = (do
      let ov ← eval o X.env
      standAt apos.atName
      let (f, first) ← holding [ov] (getMethod ov m pl)
      callWith pos f first (backTo pos (starEach (e :: es) X.env)) (backToKw pos (keywordEach [] X.env))) := by rfl) : PE X (.Call (.Attribute o m apos) (e :: es) [] pos) (tMeth (He.ga X.K C) m sp [] E ta t) := by
  obtain ⟨fd, F, b⟩ := G.ex
  exact pe_meth he G.cl G.me F hr b .nil hx ha hst hpl ht
theorem pe_methP0 {pl : Sem Bool} (G : PromM X.prog X.w X.K X.mg X.base CX k C m ps sp) (hr : Room k X.A) (hx : Passes CX X E) (he : PE X o ta)
    (ht : eval (.Call (.Attribute o m apos) [] [] pos) X.env = (do
      let ov ← eval o X.env
      standAt apos.atName
      let (f, first) ← holding [ov] (getMethod ov m pl)
      callWith pos f first (backTo pos (starEach [] X.env)) (backToKw pos (keywordEach [] X.env))) := by rfl) : PE X (.Call (.Attribute o m apos) [] [] pos) (tMeth (He.ga X.K C) m sp [] E ta tNil) := by
  obtain ⟨fd, F, b⟩ := G.ex
  exact pe_meth0 he G.cl G.me F hr b .nil hx ht
/-- C(e, ..) by what is promised of it -/
def tNew (sp : Sp) (E : XK) (t : TA) : TE := fun σ H Q => t σ H fun vs H1 => sp vs H1 Q E
theorem pe_newP (G : PromC X.prog X.w X.K X.mg X.base CX k x sp) (hr : Room (k + 1) X.A) (hg : Gl X x) (hx : Passes CX X E) (ha : PA X (e :: es) t)
    (hdb : (x == ("__debug__" : Str)) = false := by decide) (he : starEach (e :: es) X.env = (false, eval e X.env) :: starEach es X.env := by rfl) (hpl : (backTo pos (starEach es X.env)).any (·.1) = false := by rfl) :
    PE X (.Call (.Name x p) (e :: es) [] pos) (tNew sp E t) := by
  obtain ⟨sp0, F, hs⟩ := G.ex
  refine ⟨fun pins s σ H Q I h => wpAny_Call_Name_kw (ld_glob I hg G.mg_ (PySem.W.callWith_K (h₀ := X.base) I.ok.mod.kin G.make.kp (thn (ha.run pos pins s σ H _ I h) fun us s1 ⟨vs, H1, I1, r, q⟩ => ⟨I1.kIn, ?_⟩) he hpl) hdb)⟩
  exact StX.run_makeR G.make F hr hx I1 r fun a dx h1 h2 h3 => hs vs H1 Q E q a dx h1 h2 h3
/-- C(e, .., *y) -/
theorem pe_newS (G : PromC X.prog X.w X.K X.mg X.base CX k x sp) (hr : Room (k + 1) X.A) (hg : Gl X x) (hx : Passes CX X E) (ha : PA X (e :: es) t)
    (hdb : (x == ("__debug__" : Str)) = false := by decide) (he : starEach (e :: es) X.env = (false, eval e X.env) :: starEach es X.env := by rfl) (hst : (backTo pos (starEach es X.env)).any (·.1) = true := by rfl) :
    PE X (.Call (.Name x p) (e :: es) [] pos) (tNew sp E t) := by
  obtain ⟨sp0, F, hs⟩ := G.ex
  refine ⟨fun pins s σ H Q I h => wpAny_Call_Name_kw (ld_glob I hg G.mg_ (PySem.W.callWith_S2 (h₀ := X.base) I.ok.mod.kin G.make.kp (thn (ha.run pos pins s σ H _ I h) fun us s1 ⟨vs, H1, I1, r, q⟩ => ⟨I1.kIn, ?_⟩) he hst) hdb)⟩
  exact StX.run_makeR G.make F hr hx I1 r fun a dx h1 h2 h3 => hs vs H1 Q E q a dx h1 h2 h3
end
/-- s[i], s a list or a tuple -/
theorem ix_any {X : Cx} : IxR X (fun x y H Q => rIxL X.K x y H Q ∨ rIxT X.K x y H Q) := by
  intro value slice pins s σ H x y v u Q I rx ry h hs
  rcases h with h | h
  · exact ix_list value slice pins s σ H x y v u Q I rx ry h hs
  · exact ix_tup value slice pins s σ H x y v u Q I rx ry h hs
theorem pe_gstr {X : Cx} {x : Str} {pos : Pos} {v : Str} (h : ∃ u, X.mg x = some (.str v u)) (hg : Gl X x := by rfl) (hd : (x == ("__debug__" : Str)) = false := by decide) : PE X (.Name x pos) (tC (.str v)) := by
  obtain ⟨u, hm⟩ := h
  exact pe_glob hg hm ⟨_, rfl⟩ hd
/-- what isinstance asks of an own class -/
structure IsiK (K : PySem.W.Frag) (C : Addr) : Prop where
  cl : Cls K C
  ha : PySem.W.findIn K (.ref C) "__class__" = some (some (.builtin "object.__class__"))
  hn : PySem.W.specialIn K (.builtin "object.__class__") "__get__" = some (some (.builtin "getset_descriptor.__get__"))
  htk : PySem.W.takesIn K (.builtin "object.__class__") = some true
  hm : PySem.W.mroIn K C (.type "object") = some true
def isiB (K : PySem.W.Frag) (C : Addr) : Bool := He.eqO (PySem.W.findIn K (.ref C) "__class__") (some (some (.builtin "object.__class__"))) && (He.eqO (PySem.W.specialIn K (.builtin "object.__class__") "__get__") (some (some (.builtin "getset_descriptor.__get__"))) &&
  (decide (PySem.W.takesIn K (.builtin "object.__class__") = some true) && decide (PySem.W.mroIn K C (.type "object") = some true)))
theorem isiB_ok {K : PySem.W.Frag} {C : Addr} (cl : Cls K C) (h : isiB K C = true) : IsiK K C := by
  obtain ⟨h1, h⟩ := He.ba h
  obtain ⟨h2, h⟩ := He.ba h
  obtain ⟨h3, h4⟩ := He.ba h
  exact ⟨cl, He.eqO_ok h1, He.eqO_ok h2, of_decide_eq_true h3, of_decide_eq_true h4⟩
theorem IsiK.ty {K : PySem.W.Frag} {C : Addr} (i : IsiK K C) {H : Hp} {a dx : Addr} {fs : List (Str × V)} (h : H a = some (.ins C dx fs)) : TyX K H (.ref a) (.ref C) := .base (.ins h i.cl i.ha i.hn i.htk i.hm)
theorem kit_self {K : PySem.W.Frag} {t : Value} : PySem.W.kitOne K t t = some true := by
  unfold PySem.W.kitOne
  rw [if_pos (by simp)]
end Sz
/-! enumerate over a tuple (the hand layer has it for lists): by what the tuple's iterator draws -/
namespace Sz
open PySem PySem.Spec PyProof.Rows L2
/-- enumerate(v) where iter(v) begins an object o -/
theorem meets_enum1 {v : Value} {o : Obj} {Hh : Heap → Prop} (B : Begins v o Hh) : Meets (Builtin.«enumerate.__new__» ⟨[.type "enumerate", v], []⟩) (fun _ R s => Hh s.heap ∧ R (.ok (.ret (.ref (s.heap.push o).objs.size)))
    { s with heap := (s.heap.push o).push { cls := .type "enumerate", data := .fields #[.none, .bool false, .ref s.heap.objs.size, rawInt 0, .none, .none] } }) := .of_wp fun prog w A R s h => by
  obtain ⟨hp, g, d, tk, os⟩ := s
  have hsub := sub_enumerate
  have it1 : ∀ {A' : Around} {Ex : Value → Shared → Prop} {Q : Value → Shared → Prop}, Q (.ref hp.objs.size) ⟨hp.push o, g, d, tk, os⟩ → wpAny (model prog w) A' (pyIter v) Q Ex ⟨hp, g, d, tk, os⟩ := fun q => B.iter prog w _ _ ⟨hp, g, d, tk, os⟩ _ h.1 q
  wp_walk using it1
  refine wpAny_stack_any (fun st => wpAny_pure ?_)
  split
  · rename_i c _ _ _ _ _
    cases (c == Value.type "enumerate") <;> (wp_walk using it1; exact ⟨_, rfl, h.2⟩)
  · wp_walk using it1
    exact ⟨_, rfl, h.2⟩
theorem call_enum1 {prog : Program} {w : World} {A : Around} {Ex : Value → Shared → Prop} {s : Shared} {v : Value} {o : Obj} {Hh : Heap → Prop} {Q : Value → Shared → Prop} (B : Begins v o Hh) (h1 : Hh s.heap)
    (k : ∀ h', IsEnum h' (s.heap.objs.size + 1) s.heap.objs.size 0 .none → h'.get? s.heap.objs.size = some o → (∀ b u, s.heap.get? b = some u → h'.get? b = some u) → Q (.ref (s.heap.objs.size + 1)) { s with heap := h' }) :
    wpAny (model prog w) A (call (.type "enumerate") [v]) Q Ex s := by
  refine callType_new F.called_enumerate (by decide) (F.typeCall_enumerate_1 _) (F.newCall_enumerate_1 _) (fun obj => F.args_object_init_2 obj _) F.entry_enumerate_new (meets_enum1 B) ⟨h1, ?_⟩
  have z : (s.heap.push o).objs.size = s.heap.objs.size + 1 := Heap.size_push ..
  have e := Heap.get?_push_size (s.heap.push o) (o := { cls := .type "enumerate", data := .fields #[.none, .bool false, .ref s.heap.objs.size, rawInt 0, .none, .none] }) rfl
  rw [z] at e
  show _ ∧ _
  rw [z]
  exact ⟨⟨_, e, rfl⟩, k _ e (Heap.get?_push_of_some _ (Heap.get?_push_size _ B.free)) fun b u x => Heap.get?_push_of_some _ (Heap.get?_push_of_some _ x)⟩

/-- the tuple at a, each item in a new pair -/
def IteT (K : PySem.W.Frag) (a : Addr) : It where
  go := fun i H => ∃ (xs : List V) (x : V), SqT K H a xs ∧ xs[i]? = some x
  yld := fun i H v H' => ∃ T x, v = .ref T ∧ H T = none ∧ H' = upd H T (.tup [.int (i : Nat), x]) ∧ ∀ xs, SqT K H a xs → xs[i]? = some x
  stop := fun i H => ∃ xs : List V, SqT K H a xs ∧ xs.length ≤ i
section
variable {X : Cx} {pins : List (Addr × Obj)} {σ : L2.St} {H : Hp} {s : Shared} {a e it : Addr} {i : Nat} {old : Value} {its : List Value}
theorem enumT_walks (hd : X.A.handled = none) (he : IsEnum s.heap e it ((i : Nat) : Int) old) (hit : s.heap.IsTupleIter it a i) (hne : e ≠ it) (p : s.heap.IsTuple a its.toArray) :
    WalksT X.prog X.w X.A e [e, it, a] [e, it] its.toArray.size (fun i vals => ∃ t x, its.toArray[i]? = some x ∧ vals = #[.int i t, x]) (fun i h => (∃ old, IsEnum h e it i old) ∧ h.IsTupleIter it a i ∧ h.IsTuple a its.toArray)
      (fun i T h => (∃ x, IsEnumOut h e it ((i : Int) + 1) x T) ∧ (h.IsTupleIter it a (i + 1) ∧ h.IsTuple a its.toArray) ∧ T ≠ e ∧ T ≠ it) := by
  have n1 : a ≠ it := fun z => by
    obtain ⟨o1, q1, c1, _⟩ := p
    obtain ⟨o2, q2, c2, _⟩ := hit
    rw [z, q2] at q1
    cases q1
    exact absurd (c2.symm.trans c1) (by decide)
  have n2 : e ≠ a := fun z => by
    obtain ⟨o1, q1, c1, _⟩ := p
    have he' : s.heap.get? e = _ := he
    rw [z, q1] at he'
    cases he'
    have c1 : Value.type "enumerate" = Value.type "tuple" := c1
    exact absurd c1 (by decide)
  exact WalksT.enumerateD (A := X.A) (Draws.tuple (A := X.A.in1) hd it a n1 its.toArray) e hne (by simp [hne, n2]) (by simp)
end
theorem enumT_done {prog : Program} {w : World} {A : Around} {Ex : Value → Shared → Prop} {s : Shared} {a e it : Addr} {i : Nat} {old : Value} {items : Array Value} {Q : Option Value → Shared → Prop} (hh : A.handled = none) (he : IsEnum s.heap e it ((i : Nat) : Int) old)
    (hit : s.heap.IsTupleIter it a i) (p : s.heap.IsTuple a items) (hx : items[i]? = none) (k : ∀ h', Heap.ExtBut it s.heap h' → Q none { s with heap := h' }) : wpAny (model prog w) A (pyNext (.ref e)) Q Ex s := by
  unfold pyNext
  refine wpAny_bind (wpAny_attempt (wpAny_callSpecial?_slot (name := Str.ofString "__next__") ⟨_, he, rfl⟩ F.slot_enumerate_next (wpAny_call_entry F.slot_enumerate_next ⟨_, he, rfl⟩ F.entry_enumerate_next ?_ (F.args_enumerate_next_1 _))))
  show wpAny _ _ (field (.ref e) 2 >>= _) _ _ s
  refine wpAny_bind (wpAny_field he rfl (x := .ref it) rfl (wpAny_bind (wpAny_nextOf_tuple_end hh hit p hx fun h' x ext ⟨o, ho, hc⟩ => ?_)))
  exact wpAny_bind (wpAny_isInstance (T := "StopIteration") (b := true) ⟨o, ho, hc⟩ isSubtype_stop (wpAny_pure (k _ ext)))
theorem turn_enumT {P : Program} {w : World} {K : PySem.W.Frag} {elts : List Expr} {kk : Nat} {tpos : Pos} (a e it : Addr) :
    Turn P w K (.Tuple elts kk tpos) (IteT K a) [e, it] e (fun i h => (∃ old, IsEnum h e it ((i : Nat) : Int) old) ∧ h.IsTupleIter it a i ∧ e ≠ it) where
  mem := List.mem_cons_self ..
  obj := fun i h st b hb => by
    obtain ⟨⟨old, he⟩, ⟨o, ho, _, hd⟩, _⟩ := st
    rcases List.mem_cons.mp hb with z | z
    · subst z
      exact ⟨_, he, fun v q => nomatch q⟩
    · rw [List.mem_singleton.mp z]
      exact ⟨o, ho, fun v q => by rw [hd] at q; cases q⟩
  keep := fun i h h' ⟨⟨old, he⟩, hi, hne⟩ k => ⟨⟨old, k e (List.mem_cons_self ..) _ he⟩, hi.at fun o q => k it (List.mem_cons_of_mem _ (List.mem_cons_self ..)) o q, hne⟩
  item := by
    intro X hP hw hK hc i pins s σ H E I hf ⟨⟨old, he⟩, hit, hne⟩ ⟨xs, x, hq, hx⟩
    subst hP hw hK
    obtain ⟨its, rv, p, hz⟩ := I.tuple hq
    obtain ⟨u, hu, ru⟩ := rv.get hx
    have p' : s.heap.IsTuple a its.toArray := p
    have W := enumT_walks (X := X) (I.ok.hd hc) he hit hne p'
    have hlt : i < its.toArray.size := by simpa using (List.getElem?_eq_some_iff.mp hu).1
    refine W.item i s _ E hlt ⟨⟨old, he⟩, hit, p'⟩ fun T vals h' tk hv hT isT mid k1 => ⟨_, rfl, ?_⟩
    obtain ⟨t, y, hy, rfl⟩ := hv
    have ey : u = y := by
      have e1 : its.toArray[i]? = some u := by simpa using hu
      exact Option.some.inj (e1.symm.trans hy)
    subst ey
    refine W.go elts kk tpos i T { s with heap := h', toks := tk } _ E mid fun h2 st2 k2 => ?_
    have away := W.apart i T h' mid
    obtain ⟨oT, hoT, cT, nT, dT⟩ := isT
    have hoT2 : h2.get? T = some oT := k2 T oT away hoT
    have new : ObjOk X.prog X.w (upd H T (.tup [.int (i : Nat), x])) h2 T (.tup [.int (i : Nat), x]) := ⟨by show 2 ≤ sizeLine; decide, [.int i t, u], .cons ⟨_, rfl⟩ (.cons ru .nil), ⟨oT, hoT2, cT, nT, dT⟩⟩
    have I1 : Inv X pins σ (upd H T (.tup [.int (i : Nat), x])) { s with heap := h2, toks := tk } := I.turnedNew (ch := [e, it]) (fun b ob hb q => k2 b ob hb (k1 b ob hb q)) hf hT new
    refine ⟨.ref T, _, I1, rfl, ⟨T, x, rfl, I.hok.fresh hT, rfl, fun ys hy => by rw [I.tuple_inj hy hq]; exact hx⟩, ⟨st2.1, st2.2.1, hne⟩, fun b hb => ?_⟩
    have nb : b ≠ T := fun z => away (by rw [← z]; exact hb)
    rw [upd_ne nb]
    exact (hf b hb).1
  done := by
    intro X hP hw hK hc i pins s σ H E I hf ⟨⟨old, he⟩, hit, hne⟩ ⟨xs, hq, hx⟩
    subst hP hw hK
    obtain ⟨its, rv, p, hz⟩ := I.tuple hq
    have p' : s.heap.IsTuple a its.toArray := p
    have hl := rv.length
    obtain ⟨o, ho, cT, nT, dT⟩ := id p'
    obtain ⟨f0, f1, f2, f3, f4, f5⟩ := hf it (List.mem_cons_of_mem _ (List.mem_cons_self ..))
    refine enumT_done (I.ok.hd hc) he hit p' (by simp; omega) fun h' ex => ⟨rfl, I.turned (t' := s.toks) (fun b ob hb q => ex b ob hb q) f0 f1 f3 f4 f5⟩
  self := fun A i s Q E ⟨⟨_, he⟩, _⟩ h => wpAny_pyIter_enum he h
def iEnumT (K : PySem.W.Frag) (ta : TA) : TI := fun σ H R => ta σ H fun vs H1 => ∃ a xs, vs = [.ref a] ∧ SqT K H1 a xs ∧ R (IteT K a) H1
theorem pi_enumT {X : Cx} {e : Expr} {ta : TA} {p pos tpos : Pos} {elts : List Expr} {kk : Nat} (hg : Gl X "enumerate") (hm : X.mg "enumerate" = none) (ha : PA X [e] ta) (hs : starEach [e] X.env = [(false, eval e X.env)] := by rfl) :
    PI X (.Tuple elts kk tpos) (.Call (.Name "enumerate" p) [e] [] pos) (iEnumT X.K ta) := by
  refine ⟨fun pins s σ H R I h => Call_ (ld_blt I hg hm boot_enumerate (PyProof.Rows.callWith_type1 (thn (ha.run pos pins s σ H _ I h) fun us s1 ⟨vs, H1, I1, r1, q1⟩ => ?_) hs rfl))⟩
  obtain ⟨a, xs, rfl, hq, q⟩ := q1
  cases r1 with
  | cons r rr =>
    cases rr
    cases r
    obtain ⟨its, rv, p', hz⟩ := I1.tuple hq
    refine call_enum1 (begins_tuple a its.toArray) (show s1.heap.IsTuple a its.toArray from p') fun h' he hit hk => wpAny_pyIter_enum he ?_
    refine ⟨s1.heap.objs.size + 1, [s1.heap.objs.size + 1, s1.heap.objs.size], _, _, H1, rfl, I1.kept (t' := s1.toks) hk, turn_enumT a _ _, ⟨⟨.none, he⟩, ⟨_, hit, rfl, rfl⟩, Nat.succ_ne_self _⟩, fun b hb => ?_, q⟩
    have hle : s1.heap.objs.size ≤ b := by
      rcases List.mem_cons.mp hb with z | z
      · rw [z]
        exact Nat.le_add_right _ 1
      · rw [List.mem_singleton.mp z]
        exact Nat.le_refl _
    exact I1.fpOk hle (I1.hok.fresh hle)
theorem walk_enumT {K : PySem.W.Frag} {a : Addr} {xs : List V} : Walk (IteT K a) xs.length (fun H => SqT K H a xs) (YPair (fun i => some (.int (i : Nat))) (fun i => xs[i]?)) :=
  ⟨fun i _ hi q => ⟨xs, xs[i], q, by simp [hi]⟩, fun _ q => ⟨xs, q, Nat.le_refl _⟩, fun i H v H' _ q ⟨T, x, h1, h2, h3, h4⟩ => ⟨T, .int (i : Nat), x, h1, h2, h3, rfl, h4 xs q⟩⟩
end Sz
namespace Sz
open PySem PySem.Spec PyProof.Rows L2
/-! ### ranges of integers of any size -/
theorem turn_long {P : Program} {w : World} {K : PySem.W.Frag} {tg : Expr} (it : Addr) (lo : Int) (n : Nat) :
    Turn P w K tg (Itr lo n) [it] it (fun i h => IsLongIter h it (lo + (i : Nat) * 1) ((n : Int) - (i : Nat)) 1) := by
  have fpit : ∀ {X : Cx} {pins : List (Addr × Obj)} {σ : L2.St} {H : Hp} {s : Shared} {h' : Heap} {tk : Nat}, Inv X pins σ H s → FpOk X pins H it → (∀ b o, b ≠ it → s.heap.get? b = some o → h'.get? b = some o) → Inv X pins σ H { s with heap := h', toks := tk } := fun I f k => by
    obtain ⟨g0, g1, _, g3, g4, g5⟩ := f
    exact I.turned k g0 g1 g3 g4 g5
  constructor
  · exact List.mem_singleton_self it
  · intro i h z b hb
    cases List.mem_singleton.mp hb
    refine ⟨_, z, fun v y => ?_⟩
    have y' : Data.fields _ = Data.cell v := y
    cases y'
  · exact fun i h h' z keep => keep it (List.mem_singleton_self it) _ z
  · intro X e1 e2 e3 calm i pins s σ H E I fp z go
    subst e1 e2 e3
    have wk := Walks.longrange (prog := X.prog) (w := X.w) (I.ok.hd calm) it lo 1 n
    refine wk.item i s _ _ go z ?_
    rintro v h' tk ⟨t, rfl⟩ z' kp
    have J := fpit (tk := tk) I (fp it (List.mem_singleton_self it)) fun b o hb e => kp b o (by simpa using hb) e
    refine ⟨_, rfl, go_of (s := { s with heap := h', toks := tk }) (n := "longrange_iterator") z' rfl rfl (by decide) ?_⟩
    exact ⟨.int (lo + i), H, J, ⟨t, by rw [Int.mul_one]⟩, ⟨rfl, rfl⟩, z', fun b hb => (fp b hb).1⟩
  · intro X e1 e2 e3 calm i pins s σ H E I fp z stop
    subst e1 e2 e3
    refine wpAny_pyNext_long_end (I.ok.hd calm) z (by have : n ≤ i := stop; omega) fun h' eb => ⟨rfl, ?_⟩
    exact fpit (tk := s.toks) I (fp it (List.mem_singleton_self it)) eb
  · exact fun A i s Q E z h => wpAny_pyIter_longiter z h
section
variable {X : Cx} {tg : Expr}
theorem range_any {pins : List (Addr × Obj)} {σ : L2.St} {H : Hp} {s : Shared} {R : It → Hp → Prop} {E : Value → Shared → Prop} {lo hi : Int} {t u v : Tok} {tk : Nat} (I : Inv X pins σ H s)
    (q : R (Itr lo (hi - lo).toNat) H) : wpAny (model X.prog X.w) X.A (pyIter (.ref s.heap.objs.size)) (PIE X pins σ tg R) E { s with heap := s.heap.push { cls := .type "range", data := .fields #[.int lo t, .int hi u, .int 1 v] }, toks := tk } := by
  generalize hr : s.heap.push { cls := .type "range", data := .fields #[.int lo t, .int hi u, .int 1 v] } = hp
  have J : Inv X pins σ H { s with heap := hp, toks := tk } := by
    rw [← hr]
    exact I.kept fun b o e => Heap.get?_push_of_some _ e
  have fresh : ∀ b ∈ [hp.objs.size], FpOk X pins H b := fun b hb => by
    cases List.mem_singleton.mp hb
    exact J.fpOk (Nat.le_refl _) (J.hok.fresh (Nat.le_refl _))
  have ir : IsRange hp s.heap.objs.size lo hi 1 t u v := by
    rw [← hr]
    exact IsRange.new ..
  have x0 : lo + ((0 : Nat) : Int) * 1 = lo := by simp
  have n0 : (((hi - lo).toNat : Nat) : Int) - ((0 : Nat) : Int) = Builtin.Range.rangeSize lo hi 1 := by
    rw [rangeSize_one]
    split <;> omega
  cases sm : Builtin.Range.small lo hi 1 with
  | true =>
    refine wpAny_pyIter_range ir sm ?_
    refine ⟨hp.objs.size, [hp.objs.size], _, _, H, rfl, J.kept (t' := tk) fun b o e => Heap.get?_push_of_some _ e, turn_range _ lo (hi - lo).toNat, ?_, fresh, q⟩
    show IsRangeIter _ _ (lo + ((0 : Nat) : Int) * 1) ((((hi - lo).toNat : Nat) : Int) - ((0 : Nat) : Int)) 1
    rw [x0, n0]
    exact Heap.get?_push_size hp rfl
  | false =>
    refine wpAny_pyIter_longrange ir sm ?_
    refine ⟨hp.objs.size, [hp.objs.size], _, _, H, rfl, J.kept (t' := tk) fun b o e => Heap.get?_push_of_some _ e, turn_long _ lo (hi - lo).toNat, ?_, fresh, q⟩
    show IsLongIter _ _ (lo + ((0 : Nat) : Int) * 1) ((((hi - lo).toNat : Nat) : Int) - ((0 : Nat) : Int)) 1
    rw [x0, n0]
    exact Heap.get?_push_size hp rfl
def iRngA (ta : TA) : TI := fun σ H R => ta σ H fun vs H1 => ∃ i j : Int, vs = [.int i, .int j] ∧ R (Itr i (j - i).toNat) H1
theorem pi_range2A {a b : Expr} {ta : TA} {p pos : Pos} (hg : Gl X "range") (hm : X.mg "range" = none) (ha : PA X [a, b] ta) (s1 : starEach [a, b] X.env = [(false, eval a X.env), (false, eval b X.env)] := by rfl) (s2 : starEach [b] X.env = [(false, eval b X.env)] := by rfl) :
    PI X tg (.Call (.Name "range" p) [a, b] [] pos) (iRngA ta) := by
  constructor
  intro pins s σ H R I h
  refine Call_ (ld_blt I hg hm boot_range (PyProof.Rows.callWith_type1 (thn (ha.run pos pins s σ H _ I h) ?_) (by rw [s1, s2]) (by rw [s2]; rfl)))
  rintro us sA ⟨vs, H1, I1, r1, i, j, rfl, q⟩
  obtain ⟨t, t', rfl⟩ := Vals.int2 r1
  exact call_range_2 (range_any I1 q)
end
end Sz
namespace Sz
open PySem PySem.Spec PyProof.Rows L2
/-! ### list(range(a, b)) of integers of any size -/
section
variable {prog : Program} {w : World} {A : Around} {E : Value → Shared → Prop} {s : Shared}
/-- L.extend(range(a, b)), L empty -/
theorem extend_long {R : Result → Shared → Prop} {r : Addr} {a b : Int} {t u v : Tok} {n : Nat} (calm : A.handled = none) (ir : IsRange s.heap r a b 1 t u v) (big : Builtin.Range.small a b 1 = false) (size : Builtin.Range.rangeSize a b 1 = n) (few : n ≤ 2 ^ 24)
    (L : Addr) (out : Value) (c : Nat) (hL : s.heap.get? L = some { cls := .type "list", data := .seq #[] c })
    (goal : ∀ h' tk its c', (∀ x o, x ≠ L → s.heap.get? x = some o → h'.get? x = some o) → h'.get? L = some { cls := .type "list", dict := none, data := .seq its c', slots := #[] } → ItemsOf (fun i z => ∃ y, z = .int (a + i * 1) y) its n →
      R (.ok (.ret out)) { s with heap := h', toks := tk }) :
    wpAny (model prog w) A.in1 (Builtin.List.listExtendWith (.ref L) (.ref r) out) (fun fin s' => match fin with
      | .done f => R (.ok f) s'
      | .again c' => c'.quiet = true ∧ codeAny (model prog w) A c' R s') (fun e s' => R (.error e) s') s := by
  have ne1 : L ≠ r := by
    rintro rfl
    rw [ir] at hL
    simp at hL
  have ne2 : L ≠ s.heap.objs.size := Nat.ne_of_lt (Heap.lt_size hL)
  have wk := (Walks.longrange (prog := prog) (w := w) (A := A.in1) calm s.heap.objs.size a 1 n).toS
  have loop : ∀ (h : Heap) (c1 tk : Nat), IsLongIter h s.heap.objs.size (a + ((0 : Nat) : Int) * 1) ((n : Int) - ((0 : Nat) : Int)) 1 → (∀ x o, x ≠ L → s.heap.get? x = some o → h.get? x = some o) → h.get? L = some { cls := .type "list", data := .seq #[] c1 } →
      codeAny (model prog w) A (.builtin "list.extend.loop" ⟨[.ref L, .ref s.heap.objs.size, out], []⟩) R { s with heap := h, toks := tk } := fun h c1 tk z kp hl => by
    refine codeAny_extend_loopS wk (by rw [sizeLine_eq]; omega) L (fun m => ne2 (List.mem_singleton.mp m)) out n 0 _ #[] c1 rfl (Nat.zero_le _) z hl (ItemsOf.nil _) ?_
    intro s' its c' mv hl' hi
    rw [Moved.eq_with mv]
    refine goal s'.heap s'.toks its c' (fun x o hx e => mv.heap x o (fun m => ?_) (kp x o hx e)) hl' hi
    cases List.mem_cons.mp m with
    | inl q => exact hx q
    | inr q =>
      have q1 := List.mem_singleton.mp q
      rw [q1] at e
      exact absurd (Heap.lt_size e) (Nat.lt_irrefl _)
  unfold Builtin.List.listExtendWith
  refine wpAny_bind (wpAny_typeOf (T := "range") ⟨_, ir, rfl⟩ ?_)
  have f1 : Builtin.List.listSameRef (.ref L) (.ref r) = false := by
    simp [Builtin.List.listSameRef, ne1]
  have f2 : (Value.type "range" == Value.type "list") = false := by decide
  have f3 : (Value.type "range" == Value.type "tuple") = false := by decide
  simp only [f1, f2, f3, Bool.or_false, Bool.false_eq_true, if_false]
  refine wpAny_bind (wpAny_pyIter_longrange ir big (wpAny_bind (wpAny_holding (wpAny_hint_range (n := n) (Heap.get?_push_of_some _ ir) size few ?_))))
  generalize hg : s.heap.push { cls := .type "longrange_iterator", data := .fields #[rawInt a, rawInt (Builtin.Range.rangeSize a b 1), rawInt 1] } = g
  have gi : IsLongIter g s.heap.objs.size (a + ((0 : Nat) : Int) * 1) ((n : Int) - ((0 : Nat) : Int)) 1 := by
    have x0 : a + ((0 : Nat) : Int) * 1 = a := by simp
    have x1 : (n : Int) - ((0 : Nat) : Int) = Builtin.Range.rangeSize a b 1 := by rw [size]; simp
    rw [x0, x1, ← hg]
    exact Heap.get?_push_size _ rfl
  have gk : ∀ x o, s.heap.get? x = some o → g.get? x = some o := fun x o e => by
    rw [← hg]
    exact Heap.get?_push_of_some _ e
  have gL := gk L _ hL
  refine wpAny_ite_split (fun _ => ?_) fun _ => wpAny_pure ⟨plainId_quiet F.plain_extend_loop _, loop _ c _ gi (fun x o _ e => gk x o e) gL⟩
  refine wpAny_bind (wpAny_rule (wpAny_bind ?_))
  show wpAny _ _ (updateSeq L (·.push .none) >>= fun _ => updateSeq L (·.pop)) _ _ _
  refine wpAny_bind (wpAny_updateSeq gL rfl ?_)
  have m1 := Heap.get?_update_self (Obj.mapSeq (·.push Value.none)) gL rfl
  refine wpAny_updateSeq (hz := by seq_fits) m1 rfl (wpAny_pure ⟨plainId_quiet F.plain_extend_loop _, loop _ _ _ ?_ (fun x o hx e => ?_) (Heap.get?_update_self (Obj.mapSeq (·.pop)) m1 rfl)⟩)
  · exact (Heap.get?_update_other _ _ ne2).trans ((Heap.get?_update_other _ _ ne2).trans gi)
  · exact (Heap.get?_update_other _ _ (Ne.symm hx)).trans ((Heap.get?_update_other _ _ (Ne.symm hx)).trans (gk x o e))
theorem call_list_long {Q : Value → Shared → Prop} {r : Addr} {a b : Int} {t u v : Tok} {n : Nat} (calm : A.handled = none) (ir : IsRange s.heap r a b 1 t u v) (big : Builtin.Range.small a b 1 = false) (size : Builtin.Range.rangeSize a b 1 = n) (few : n ≤ 2 ^ 24)
    (goal : ∀ h' tk its c', (∀ x o, s.heap.get? x = some o → h'.get? x = some o) → h'.get? s.heap.objs.size = some { cls := .type "list", dict := none, data := .seq its c', slots := #[] } → ItemsOf (fun i z => ∃ y, z = .int (a + i * 1) y) its n →
      Q (.ref s.heap.objs.size) { s with heap := h', toks := tk }) : wpAny (model prog w) A (call (.type "list") [.ref r]) Q E s := by
  refine callType_codes (Q₁ := fun obj s1 => obj = .ref s.heap.objs.size ∧ s1 = { s with heap := s.heap.push { cls := .type "list", data := .seq #[] } }) F.called_list (F.typeCall_list_1 _) F.entry_list_init (code_list_new _ ⟨rfl, rfl⟩) ?_
  rintro _ _ ⟨rfl, rfl⟩
  generalize hg : s.heap.push { cls := .type "list", data := .seq #[] } = g
  have gk : ∀ x o, s.heap.get? x = some o → g.get? x = some o := fun x o e => by
    rw [← hg]
    exact Heap.get?_push_of_some _ e
  have gL : g.get? s.heap.objs.size = some { cls := .type "list", data := .seq #[] } := by
    rw [← hg]
    exact Heap.get?_push_size _ rfl
  have lt : ∀ x o, s.heap.get? x = some o → x ≠ s.heap.objs.size := fun x o e => Nat.ne_of_lt (Heap.lt_size e)
  generalize hS : s.heap.objs.size = L at gL goal lt
  have nr : r ≠ L := lt r _ ir
  refine ⟨⟨_, gL, rfl⟩, F.args_list_init_2 _ _, ?_⟩
  show wpAny _ _ (do let old ← Builtin.List.listItems (.ref L); Builtin.List.listUpdate (.ref L) (fun _ => #[]); letGo old.toList.reverse; Builtin.List.listExtendWith (.ref L) (.ref r) .none) _ _ _
  unfold Builtin.List.listItems
  refine wpAny_bind (wpAny_bind (wpAny_seqItems gL rfl (wpAny_pure ?_)))
  show wpAny _ _ (updateSeq L (fun _ => #[]) >>= fun _ => letGo (#[] : Array Value).toList.reverse >>= fun _ => Builtin.List.listExtendWith (.ref L) (.ref r) .none) _ _ _
  refine wpAny_bind (wpAny_updateSeq gL rfl (wpAny_bind (wpAny_letGo ?_)))
  have ot : ∀ x o, x ≠ L → g.get? x = some o → (g.update L (Obj.mapSeq (fun _ => (#[] : Array Value)))).get? x = some o := fun x o hx e => (Heap.get?_update_other _ _ (Ne.symm hx)).trans e
  refine extend_long (A := A.in1) calm (ot r _ nr (gk r _ ir)) big size few L .none _ (Heap.get?_update_self (Obj.mapSeq (fun _ => (#[] : Array Value))) gL rfl) fun h' tk its c' kp hl' hi => ?_
  exact ⟨rfl, goal h' tk its c' (fun x o e => kp x o (lt x o e) (ot x o (lt x o e) (gk x o e))) hl' hi⟩
end
section
variable {X : Cx} {e : Expr} {te : L2.St → Hp → (Int → Int → Hp → Prop) → Prop}
def tLstA (te : L2.St → Hp → (Int → Int → Hp → Prop) → Prop) : TE := fun σ H Q => te σ H fun a b H1 => (b - a).toNat ≤ 1000000 ∧ ∀ q, H1 q = none → Q (.ref q) (upd H1 q (.lst (rgV a b)))
/-- list(range(..)) -/
theorem pe_listA {p pos : Pos} (hc : X.calm = true) (hg : Gl X "list") (hm : X.mg "list" = none) (he : PRg X e te) (na : starEach [e] X.env = (false, eval e X.env) :: starEach [] X.env := by rfl) : PE X (.Call (.Name "list" p) [e] [] pos) (tLstA te) := by
  constructor
  intro pins s σ H Q I h
  refine Call_ (ld_blt I hg hm boot_list (PyProof.Rows.callWith_type1 (args_cons (thn (he pins s σ H _ I h) ?_) na) na))
  rintro _ s1 ⟨r, a, b, t, u, v, H1, rfl, ir, J, few, q⟩
  refine args_nil ?_
  have few2 : (b - a).toNat ≤ 2 ^ 24 := Nat.le_trans few (by decide)
  have fin : ∀ h' tk its c', (∀ x o, s1.heap.get? x = some o → h'.get? x = some o) → h'.get? s1.heap.objs.size = some { cls := .type "list", dict := none, data := .seq its c', slots := #[] } → ItemsOf (fun i z => ∃ y, z = .int (a + i * 1) y) its (b - a).toNat →
      EP X pins σ Q (.ref s1.heap.objs.size) { s1 with heap := h', toks := tk } := fun h' tk its c' kp at_ hi => by
    refine ⟨.ref s1.heap.objs.size, upd H1 s1.heap.objs.size (.lst (rgV a b)), J.laid kp (Nat.le_refl _) ?_, rfl, q _ (J.hok.fresh (Nat.le_refl _))⟩
    refine (show ObjOk X.prog X.w _ _ _ (.lst (rgV a b)) from ⟨?_, its.toList, c', vals_rg hi, ?_⟩)
    · rw [rgV_length, sizeLine_eq]
      omega
    · rw [Array.toArray_toList]
      exact at_
  cases sm : Builtin.Range.small a b 1 with
  | true => exact call_list_range (J.ok.hd hc) ir sm (rangeSize_nat a b) few2 fin
  | false => exact call_list_long (J.ok.hd hc) ir sm (rangeSize_nat a b) few2 fin
end
end Sz
/-! x + y by an own __add__ -/
namespace Sz
open PySem PySem.Spec PyProof.Rows L2
/-- what the two classes must have: C its own def, D none, both stand under object alone -/
structure AddK (K : PySem.W.Frag) (C D f : Addr) : Prop where
  ne : C ≠ D
  c1 : ∃ cd, PySem.W.clsIn K C = some cd ∧ cd.mro = [.ref C, .type "object"]
  c2 : ∃ cd, PySem.W.clsIn K D = some cd ∧ cd.mro = [.ref D, .type "object"]
  at_ : PySem.W.findIn K (.ref C) "__add__" = some (some (.ref f))
  fn : PySem.W.isFn K (.ref f) = true
  n1 : PySem.W.findIn K (.ref D) "__add__" = some none
  n2 : PySem.W.findIn K (.ref D) "__radd__" = some none
def mroB (K : PySem.W.Frag) (C : Addr) : Bool := match PySem.W.clsIn K C with
  | some cd => decide (cd.mro = [.ref C, .type "object"])
  | none => false
def addB (K : PySem.W.Frag) (C D : Str) : Bool := decide (He.ga K C ≠ He.ga K D) && (mroB K (He.ga K C) && (mroB K (He.ga K D) && (He.eqO (PySem.W.findIn K (.ref (He.ga K C)) "__add__") (some (some (.ref (He.ma K (He.ga K C) "__add__")))) &&
  (PySem.W.isFn K (.ref (He.ma K (He.ga K C) "__add__")) && (He.eqO (PySem.W.findIn K (.ref (He.ga K D)) "__add__") (some none) && He.eqO (PySem.W.findIn K (.ref (He.ga K D)) "__radd__") (some none))))))
theorem mroB_ok {K : PySem.W.Frag} {C : Addr} (h : mroB K C = true) : ∃ cd, PySem.W.clsIn K C = some cd ∧ cd.mro = [.ref C, .type "object"] := by
  unfold mroB at h
  cases e : PySem.W.clsIn K C with
  | none =>
    rw [e] at h
    cases h
  | some cd =>
    rw [e] at h
    exact ⟨cd, rfl, of_decide_eq_true h⟩
theorem addB_ok {K : PySem.W.Frag} {C D : Str} (h : addB K C D = true) : AddK K (He.ga K C) (He.ga K D) (He.ma K (He.ga K C) "__add__") := by
  obtain ⟨h1, h⟩ := He.ba h
  obtain ⟨h2, h⟩ := He.ba h
  obtain ⟨h3, h⟩ := He.ba h
  obtain ⟨h4, h⟩ := He.ba h
  obtain ⟨h5, h⟩ := He.ba h
  obtain ⟨h6, h7⟩ := He.ba h
  exact ⟨of_decide_eq_true h1, mroB_ok h2, mroB_ok h3, He.eqO_ok h4, h5, He.eqO_ok h6, He.eqO_ok h7⟩
section
variable {K : PySem.W.Frag} {M : Model} {h : Heap} {C D f : Addr}
theorem fills_own (X : K.In h) (a : AddK K C D f) : PySem.W.Looks M h (fillsNumberSlot (.ref C) "add") true := by
  obtain ⟨cd, e1, e2⟩ := a.c1
  have L1 : PySem.W.Looks M h (mroOf (.ref C)) cd.mro := (PySem.W.looks_clsIn X e1).andThen .now
  have L2 : PySem.W.Looks M h (typeLookup (.ref C) "__add__") (some (.ref f)) := PySem.W.looks_findIn X a.at_
  unfold fillsNumberSlot
  refine PySem.W.Looks.andThen L1 ?_
  rw [e2]
  simp only [List.anyM]
  refine PySem.W.Looks.andThen (a := true) ?_ .now
  refine PySem.W.Looks.andThen (a := true) (PySem.W.Looks.andThen L2 ?_) .now
  exact .now
theorem fills_none (X : K.In h) (a : AddK K C D f) : PySem.W.Looks M h (fillsNumberSlot (.ref D) "add") false := by
  obtain ⟨cd, e1, e2⟩ := a.c2
  have L1 : PySem.W.Looks M h (mroOf (.ref D)) cd.mro := (PySem.W.looks_clsIn X e1).andThen .now
  have L2 : PySem.W.Looks M h (typeLookup (.ref D) "__add__") none := PySem.W.looks_findIn X a.n1
  have L3 : PySem.W.Looks M h (typeLookup (.ref D) "__radd__") none := PySem.W.looks_findIn X a.n2
  have L4 : PySem.W.Looks M h (typeLookup (.type "object") "__add__") none := .of_pure (by rw [typeLookup_type, builtinLookup_eq_fast]; kernel_rfl)
  have L5 : PySem.W.Looks M h (typeLookup (.type "object") "__radd__") none := .of_pure (by rw [typeLookup_type, builtinLookup_eq_fast]; kernel_rfl)
  unfold fillsNumberSlot
  refine PySem.W.Looks.andThen L1 ?_
  rw [e2]
  simp only [List.anyM]
  refine PySem.W.Looks.andThen (a := false) ?_ ?_
  · refine PySem.W.Looks.andThen (a := false) (PySem.W.Looks.andThen L2 .now) ?_
    exact PySem.W.Looks.andThen (a := false) (PySem.W.Looks.andThen L3 .now) .now
  · refine PySem.W.Looks.andThen (a := false) ?_ .now
    exact PySem.W.Looks.andThen L4 (PySem.W.Looks.andThen L5 .now)
end
section
variable {X : Cx} {CX : CXT} {k : Nat} {C D : Str} {ps : List Str} {sp : Sp} {E : XK}
/-- x + y: x an instance of C with its own __add__, y one of D with none -/
theorem op_addO (a : AddK X.K (He.ga X.K C) (He.ga X.K D) (He.ma X.K (He.ga X.K C) "__add__")) (G : PromM X.prog X.w X.K X.mg X.base CX k C "__add__" ps sp) (hr : Room k X.A) (hx : Passes CX X E) :
    OpR X (binaryOp .Add) (fun x y H Q => ∃ p q dx fs dy gs, x = .ref p ∧ y = .ref q ∧ H p = some (.ins (He.ga X.K C) dx fs) ∧ H q = some (.ins (He.ga X.K D) dy gs) ∧ sp [.ref p, .ref q] H Q E) := by
  intro pins s σ H x y v u Q I rx ry h
  obtain ⟨p, q, dx, fs, dy, gs, rfl, rfl, hp, hq, h⟩ := h
  obtain rfl : v = Value.ref p := rx
  obtain rfl : u = Value.ref q := ry
  obtain ⟨m1, O1, _⟩ := ins_get I.hok hp
  obtain ⟨od1, J1, _⟩ := O1.look
  obtain ⟨m2, O2, _⟩ := ins_get I.hok hq
  obtain ⟨od2, J2, _⟩ := O2.look
  obtain ⟨fd, F, b⟩ := G.ex
  have ne : (Value.ref (He.ga X.K C) == Value.ref (He.ga X.K D)) = false := by
    rw [beq_eq_false_iff_ne]
    exact fun z => a.ne (by injection z)
  unfold binaryOp
  refine wpAny_holding ?_
  show wpAny _ _ (binaryOp1 "add" (.ref p) (.ref q) >>= _) _ _ s
  refine wpAny_bind ?_
  unfold binaryOp1
  refine wpAny_bind (J1.type.here (wpAny_bind (J2.type.here (wpAny_bind ((fills_own I.kIn a).here ?_)))))
  rw [ne]
  refine wpAny_bind ((fills_none I.kIn a).here ?_)
  simp only [Bool.and_false, Bool.false_and, Bool.false_eq_true, if_false, if_true]
  refine wpAny_bind (wpAny_pure ?_)
  simp only [Bool.false_eq_true, if_false]
  unfold tryMethod callSpecial? specialOf
  refine wpAny_bind (wpAny_bind (wpAny_bind (wpAny_bind (J1.type.here ((PySem.W.looks_findIn I.kIn a.at_).here ?_)))))
  refine wpAny_holding (wpAny_bind ((PySem.W.bind_fn I.kIn (.ref p) (beq_iff_eq.mp a.fn)).here ?_))
  refine wpAny_bind (thn (run_fn (us := [.ref p, .ref q]) (vs := [.ref p, .ref q]) F hr b .nil hx I (.cons rfl (.cons rfl .nil)) h) fun v s' hv => wpAny_pure ?_)
  have fin : wpAny (model X.prog X.w) X.A (pure (some v) : Sem (Option Value)) (fun r s2 => wpAny (model X.prog X.w) X.A (match r with
      | some v => pure v
      | _ => do
        let ty ← typeOf (Value.ref p)
        let sl ← seqSlot? ty (Str.ofString "__add__")
        match sl with
          | some f => do
            rule "binop.sequence-concat"
            call f [Value.ref p, Value.ref q]
          | _ => binopTypeError "+" (Value.ref p) (Value.ref q)) (EP X pins σ Q) X.xe s2) X.xe s' := wpAny_pure (wpAny_pure hv)
  obtain ⟨x, H', I', r, q'⟩ := hv
  cases x with
  | non => cases (show v = Value.none from r); exact wpAny_pure fin
  | bl c => cases (show v = Value.bool c from r); exact wpAny_pure fin
  | int i => obtain ⟨t, rfl⟩ := (show ∃ t, v = Value.int i t from r); exact wpAny_pure fin
  | str i => obtain ⟨t, rfl⟩ := (show ∃ t, v = Value.str i t from r); exact wpAny_pure fin
  | byt i => obtain ⟨t, rfl⟩ := (show ∃ t, v = Value.bytes i t from r); exact wpAny_pure fin
  | flt i => obtain ⟨t, rfl⟩ := (show ∃ t, v = Value.float i t from r); exact wpAny_pure fin
  | ref a => cases (show v = Value.ref a from r); exact wpAny_pure fin
  | ty n => cases (show v = Value.type n from r); exact wpAny_pure fin
end
end Sz
/-! texts: what is joined, and its repr -/
namespace Sz
open PySem PySem.Spec PyProof.Rows L2
def Signs (x : Str) : Prop := ∀ c ∈ x.cps.toList, c < 16 ^ 8
theorem signs_of (s : String) : Signs (Str.ofString s) := fun c hc => by
  rw [Str.ofString_eq_toList] at hc
  have hc : c ∈ s.toList.map Char.toNat := by simpa using hc
  obtain ⟨d, _, rfl⟩ := List.mem_map.mp hc
  have h := d.valid
  have h2 : d.toNat < 1114112 := by
    rcases h with h | h
    · exact Nat.lt_trans h (by decide)
    · exact h.2
  exact Nat.lt_of_lt_of_le h2 (by decide)
theorem joinL_mem {sep : List Nat} {c : Nat} : ∀ {l : List (List Nat)}, c ∈ TL.joinL sep l → c ∈ sep ∨ ∃ y ∈ l, c ∈ y
  | [], h => by simp [TL.joinL] at h
  | [p], h => .inr ⟨p, by simp, h⟩
  | p :: q :: r, h => by
    rcases List.mem_append.mp (show c ∈ p ++ (sep ++ TL.joinL sep (q :: r)) from h) with h | h
    · exact .inr ⟨p, by simp, h⟩
    · rcases List.mem_append.mp h with h | h
      · exact .inl h
      · rcases joinL_mem h with h | ⟨y, hy, hc⟩
        · exact .inl h
        · exact .inr ⟨y, List.mem_cons_of_mem _ hy, hc⟩
theorem joinL_len {sep : List Nat} : ∀ {l : List (List Nat)}, (TL.joinL sep l).length ≤ (l.map (·.length)).sum + l.length * sep.length
  | [] => by simp [TL.joinL]
  | [p] => by simp [TL.joinL]
  | p :: q :: r => by
    have ih := joinL_len (sep := sep) (l := q :: r)
    show (p ++ (sep ++ TL.joinL sep (q :: r))).length ≤ _
    rw [List.length_append, List.length_append]
    simp only [List.map_cons, List.sum_cons, List.length_cons, Nat.add_mul, Nat.one_mul] at ih ⊢
    omega
theorem join_signs {sep : Str} {ys : List Str} (h : Signs sep) (h2 : ∀ y ∈ ys, Signs y) : Signs (Txt.join sep ys) := fun c hc => by
  rw [TL.join_eq] at hc
  have hc : c ∈ TL.tl (Str.join sep ys) := hc
  rw [TL.tl_join] at hc
  rcases joinL_mem hc with z | ⟨y, hy, z⟩
  · exact h c z
  · obtain ⟨y', hy', rfl⟩ := List.mem_map.mp hy
    exact h2 y' hy' c z
theorem join_len {sep : Str} {ys : List Str} : (Txt.join sep ys).length ≤ (ys.map (·.length)).sum + ys.length * sep.length := by
  have e : ∀ x : Str, x.length = (TL.tl x).length := fun x => by
    show x.cps.size = x.cps.toList.length
    simp
  rw [TL.join_eq, e, TL.tl_join]
  have := joinL_len (sep := TL.tl sep) (l := ys.map TL.tl)
  rw [List.map_map, List.length_map] at this
  have e2 : ys.map ((·.length) ∘ TL.tl) = ys.map (·.length) := by
    apply List.map_congr_left
    intro y _
    exact (e y).symm
  rw [e2] at this
  rw [e sep]
  exact this
theorem repr_fits {x : Str} (h : Signs x) (hl : x.length ≤ 100000) : (reprText x).length ≤ sizeLine := by
  have := PySem.StrLaws.reprText_len x h
  rw [sizeLine_eq]
  omega
/-- repr of a text -/
theorem cr_reprS {X : Cx} : CallR X (.builtin "repr") (fun xs H Q => ∃ y : Str, xs = [.str y] ∧ (reprText y).length ≤ sizeLine ∧ Q (.str (reprText y)) H) := by
  intro pins s σ H xs us Q I r h
  obtain ⟨y, rfl, hz, q⟩ := h
  obtain ⟨u, rfl, ru⟩ := vals1 r
  obtain ⟨t, rfl⟩ := (show ∃ t, u = Value.str y t from ru)
  exact PySem.P.repr_of_str ⟨.str _, H, I.tok _, ⟨_, rfl⟩, q⟩ hz
end Sz
/-! lists or tuples walked, a class with plain parameters, two tuples zipped -/
namespace Sz
open PySem PySem.Spec PyProof.Rows L2
section
variable {X : Cx} {tg l : Expr} {tl : TE}
/-- for x in s, s a list or a tuple -/
theorem pi_seq (hl : PE X l tl) : PI X tg l (fun σ H R => iList X.K tl σ H R ∨ iTup X.K tl σ H R) := by
  refine ⟨fun pins s σ H R I h => ?_⟩
  rcases h with h | h
  · exact (pi_list (tg := tg) hl).run pins s σ H R I h
  · exact (pi_tup (tg := tg) hl).run pins s σ H R I h
end
section
variable {K : PySem.W.Frag} {a b : Addr} {xs ys : List V} {n : Nat}
theorem walk_zipT (hn : n = min xs.length ys.length) : Walk (RZ.ItzT K a b) n (fun H => SqT K H a xs ∧ SqT K H b ys) (YPair (fun i => xs[i]?) (fun i => ys[i]?)) := by
  refine ⟨fun i H hi g => ?_, fun H g => ⟨xs, ys, g.1, g.2, by omega⟩, fun i H x H' hi g y => ?_⟩
  · have h1 : i < xs.length := by omega
    have h2 : i < ys.length := by omega
    exact ⟨xs, ys, xs[i], ys[i], g.1, g.2, List.getElem?_eq_getElem h1, List.getElem?_eq_getElem h2⟩
  · obtain ⟨T, x1, y1, e1, e2, e3, e4, e5⟩ := y
    exact ⟨T, x1, y1, e1, e2, e3, e4 xs g.1, e5 ys g.2⟩
end
section
variable {P : Program} {w : World} {K : PySem.W.Frag} {mg : Str → Option Value} {base : Heap}
/-- a class whose __init__ takes its parameters one by one -/
theorem PromC.plain {C q : Str} {st : Stmt} {N ps : List Str} {sp sp0 : Sp} {k : Nat} (mk : Mk K (He.ga K C) (He.ma K (He.ga K C) "__init__")) (hm : mg C = some (.ref (He.ga K C))) (D : DefAtM K C "__init__" q st) (S : FnScope N ps (defScope st))
    (len : ∀ vs H Q E, sp0 vs H Q E → vs.length = ps.length)
    (hb : ∀ (kV doc pm : Value) (an : Option Addr) (cdv ct : Value) (us : List Value), us.length = ps.length → bindArgs (PySem.W.fnOf "__init__" q (defArgs st) (defBody st) (defScope st) .none kV doc pm an cdv ct) ⟨us, []⟩ = pure (ps.zip us))
    (hbody : ∀ (f : Addr) (cdv : Value) (A : Around) (outer : List Env) (s : Shared) (H : Hp) (vs : List V) (Q : VK) (E : XK), Room k (A.deeper (envOfC q (defScope st) s.heap.objs.size f cdv)) → sp0 vs H Q E →
      ∃ t, PSs (cxOf CX0 P w K mg base N q (defScope st) f cdv A outer s H E).nox (defBody st) t ∧ t { nx := fun _ H' => Q .non H', rt := Q } (start N vs) H)
    (hsp : ∀ vs H Q E, sp vs H Q E → ∀ x dx, H x = none → H dx = none → dx ≠ x → sp0 (.ref x :: vs) (upd (upd H dx (.own x)) x (.ins (He.ga K C) dx [])) (fun u H2 => u = .non ∧ Q (.ref x) H2) E) :
    PromC P w K mg base CX0 (k + 1) C sp := by
  obtain ⟨fd, F⟩ := D
  have F1 : FnOk P w K mg base CX0 (k + 1) (He.ma K (He.ga K C) "__init__") fd ps sp0 := F.ok S len (fun cdv A outer s H vs Q E hr hs => by
    obtain ⟨t, h1, h2⟩ := hbody _ cdv A outer s H vs Q E hr hs
    exact ⟨t, h1.nox, h2⟩)
  refine ⟨mk, hm, _, F1.raw (F.bindsN hb) .nil, fun vs H Q E hs x dx hx hdx ne => ?_⟩
  rw [List.append_nil]
  exact hsp vs H Q E hs x dx hx hdx ne
end
end Sz
/-! len(x) by an own __len__ -/
namespace Sz
open PySem PySem.Spec PyProof.Rows L2
section
variable {X : Cx} {CX : CXT} {k : Nat} {C : Str} {ps : List Str} {sp : Sp} {E : XK}
theorem cr_lenO (G : PromM X.prog X.w X.K X.mg X.base CX k C "__len__" ps sp) (hr : Room (k + 1) X.A) (hx : Passes CX X E) :
    CallR X (.builtin "len") (fun xs H Q => ∃ p dx fs, xs = [.ref p] ∧ H p = some (.ins (He.ga X.K C) dx fs) ∧ sp [.ref p] H (fun v H' => ∃ n : Int, v = .int n ∧ 0 ≤ n ∧ n < 2 ^ 63 ∧ Q (.int n) H') E) := by
  intro pins s σ H xs us Q I r h
  obtain ⟨p, dx, fs, rfl, hp, h⟩ := h
  obtain ⟨u, rfl, ru⟩ := vals1 r
  obtain rfl : u = Value.ref p := ru
  obtain ⟨m1, O1, _⟩ := ins_get I.hok hp
  obtain ⟨od1, J1, _⟩ := O1.look
  obtain ⟨fd, F, b⟩ := G.ex
  have hl : ([Value.ref p] ++ ([] : List Value)).length = ps.length := by
    have := F.len _ _ _ _ h
    simpa using this
  refine Calls.call_function_entry kind_len plain_len entry_len (args_len1 _) ?_
  unfold Builtin.«len»
  refine wpAny_bind (m := oneArg "len" _) (wpAny_pure ?_)
  refine wpAny_bind (m := callSpecial? (.ref p) (Str.ofString "__len__")) ?_
  unfold callSpecial? specialOf
  refine wpAny_bind (wpAny_bind (J1.type.here ((PySem.W.looks_findIn I.kIn G.me.at_).here ?_)))
  refine wpAny_holding (wpAny_bind ((PySem.W.bind_fn I.kIn (.ref p) (beq_iff_eq.mp G.me.fn)).here (wpAny_bind ?_)))
  have vv : Vals [V.ref p] [Value.ref p] := .cons rfl .nil
  have bb : BindsTo s fd ⟨[Value.ref p], []⟩ (ps.zip [Value.ref p]) := b s [Value.ref p] I.kIn hl
  refine wpAny_call (codeAny_mono (F.run X.A.in1 X.stack s H ⟨[Value.ref p], []⟩ [Value.ref p] [V.ref p] _ E hr.in1 I.env0.in1 bb vv h) fun rr s' hq => ?_)
  cases rr with
  | error e => exact hx pins σ H s e s' I hq
  | ok fl =>
    cases fl with
    | ret v =>
      obtain ⟨v', H', I', rv, n, rfl, n0, n1, q⟩ := I.after hq
      obtain ⟨t, rfl⟩ := (show ∃ t, v = Value.int n t from rv)
      refine wpAny_pure ?_
      refine wpAny_bind (wpAny_holding (wpAny_pure ?_))
      refine wpAny_bind (wpAny_letGo ?_)
      show wpAny _ _ (if n < 0 then _ else _) _ _ _
      rw [if_neg (by omega)]
      show wpAny _ _ (if n ≥ 2 ^ 63 then _ else _) _ _ _
      rw [if_neg (by omega)]
      exact wpAny_bind (wpAny_mkInt (wpAny_pure ⟨_, rfl, .int n, H', I'.tok _, ⟨_, rfl⟩, q⟩))
    | next => exact False.elim hq
    | brk => exact False.elim hq
    | cont => exact False.elim hq
end
end Sz
namespace Sz
/-! ### sizes rise with the length -/
theorem totF_lt {b n m : Int} (hb : 2 ≤ b) (hn : 0 ≤ n) (h : n < m) : totF b n < totF b m := by
  have s := (totF_is hb hn).tot
  have t := (totF_is (b := b) (n := m) hb (by omega)).tot
  by_cases c : totF b n < totF b m
  · exact c
  · have l := fig_lip hb (show totF b m ≤ totF b n by omega) t s
    omega
theorem totF_mono {b n m : Int} (hb : 2 ≤ b) (hn : 0 ≤ n) (h : n ≤ m) : totF b n ≤ totF b m := by
  by_cases c : n = m
  · rw [c]
    exact Int.le_refl _
  · exact Int.le_of_lt (totF_lt hb hn (by omega))
theorem beg_mono {n k m : Int} (hm : 1 ≤ m) (h : n ≤ k) : beg n m ≤ beg k m := Int.ediv_le_ediv (by omega) (by omega)
/-- n = m q + r -/
theorem beg_parts {n m : Int} (hm : 1 ≤ m) : beg n m = n / m + (if 0 < n % m then 1 else 0) := by
  unfold beg
  have e := Int.mul_ediv_add_emod n m
  have r0 := Int.emod_nonneg n (show m ≠ 0 by omega)
  have r1 := Int.emod_lt_of_pos n (show 0 < m by omega)
  split
  · have e2 : n + m - 1 = (n % m - 1) + m * (n / m + 1) := by rw [Int.mul_add, Int.mul_one]; omega
    rw [e2, Int.add_mul_ediv_left _ _ (by omega), Int.ediv_eq_zero_of_lt (by omega) (by omega)]
    omega
  · have e2 : n + m - 1 = (m - 1) + m * (n / m) := by omega
    rw [e2, Int.add_mul_ediv_left _ _ (by omega), Int.ediv_eq_zero_of_lt (by omega) (by omega)]
    omega
theorem pieces_step {b m c n : Int} (hb : 2 ≤ b) (h : (Wr.pieces m c).ok) (hn : 0 ≤ n) : (Wr.pieces m c).gr b n ≤ (Wr.pieces m c).gr b (n + 1) := by
  simp only [Wr.ok] at h
  simp only [Wr.gr]
  have r0 := Int.emod_nonneg n (show m ≠ 0 by omega)
  have r1 := Int.emod_lt_of_pos n (show 0 < m by omega)
  have e := Int.mul_ediv_add_emod n m
  by_cases z : n % m + 1 < m
  · have d : (n + 1) / m = n / m := by
      have e2 : n + 1 = (n % m + 1) + m * (n / m) := by omega
      rw [e2, Int.add_mul_ediv_left _ _ (by omega), Int.ediv_eq_zero_of_lt (by omega) z]
      have e3 : ((n % m + 1) + m * (n / m)) = n + 1 := by omega
      omega
    have r : (n + 1) % m = n % m + 1 := by
      have e3 := Int.mul_ediv_add_emod (n + 1) m
      rw [d] at e3
      omega
    rw [d, r, if_pos (show 0 < n % m + 1 by omega)]
    have f0 := figF_pos (b := b) (n := n % m + 1) hb
    have f1 := figF_mono (b := b) (n := n % m) (m := n % m + 1) hb (by omega)
    split <;> omega
  · have rm : n % m = m - 1 := by omega
    have e2 : n + 1 = 0 + m * (n / m + 1) := by rw [Int.mul_add, Int.mul_one]; omega
    have d : (n + 1) / m = n / m + 1 := by
      rw [e2, Int.add_mul_ediv_left _ _ (by omega), Int.zero_ediv]
      omega
    have r : (n + 1) % m = 0 := by
      have e3 := Int.mul_ediv_add_emod (n + 1) m
      rw [d, Int.mul_add, Int.mul_one] at e3
      omega
    rw [d, r, rm, if_neg (show ¬ (0 : Int) < 0 by omega), Int.add_mul, Int.one_mul]
    have f0 := figF_pos (b := b) (n := m) hb
    have f1 := figF_mono (b := b) (n := m - 1) (m := m) hb (by omega)
    split <;> omega
theorem step_le {f : Int → Int} (h : ∀ n, 0 ≤ n → f n ≤ f (n + 1)) {n : Int} (hn : 0 ≤ n) : ∀ k : Nat, f n ≤ f (n + k)
  | 0 => by simp
  | k + 1 => by
    have ih := step_le h hn k
    have := h (n + k) (by omega)
    have e : n + ((k + 1 : Nat) : Int) = n + k + 1 := by omega
    rw [e]
    omega
theorem gr_mono {b : Int} {a : Wr} (hb : 2 ≤ b) (h : a.ok) {n k : Int} (hn : 0 ≤ n) (hk : n ≤ k) : a.gr b n ≤ a.gr b k := by
  cases a with
  | plus c => simp only [Wr.gr]; omega
  | told c =>
    simp only [Wr.gr]
    have := figF_mono (b := b) hb hk
    omega
  | whole c =>
    simp only [Wr.ok] at h
    exact totF_mono hb (by omega) (by omega)
  | pieces m c =>
    have := step_le (f := (Wr.pieces m c).gr b) (fun n hn => pieces_step hb h hn) hn (k - n).toNat
    have e : n + ((k - n).toNat : Int) = k := by omega
    rw [e] at this
    exact this
  | cut m c =>
    simp only [Wr.ok] at h
    simp only [Wr.gr]
    have := Int.mul_le_mul_of_nonneg_right (beg_mono h.1 hk) (show 0 ≤ c by omega)
    omega
  | coded m c =>
    simp only [Wr.ok] at h
    exact Int.mul_le_mul_of_nonneg_right (beg_mono h.1 hk) (show 0 ≤ c by omega)
  | filled m =>
    simp only [Wr.ok] at h
    exact Int.mul_le_mul_of_nonneg_right (beg_mono h.1 hk) (show 0 ≤ m by omega)
/-- a size is no less than its length -/
theorem gr_ge {b : Int} {a : Wr} (hb : 2 ≤ b) (h : a.ok) {n : Int} (hn : 0 ≤ n) : n ≤ a.gr b n := by
  have bg : ∀ m : Int, 1 ≤ m → n ≤ beg n m * m := fun m hm => by
    have e := Int.mul_ediv_add_emod n m
    have r0 := Int.emod_nonneg n (show m ≠ 0 by omega)
    have r1 := Int.emod_lt_of_pos n (show 0 < m by omega)
    rw [beg_parts hm, Int.add_mul]
    have c := Int.mul_comm m (n / m)
    split
    · rw [Int.one_mul]
      omega
    · rw [Int.zero_mul]
      omega
  cases a with
  | plus c =>
    simp only [Wr.ok] at h
    simp only [Wr.gr]
    omega
  | told c =>
    simp only [Wr.ok] at h
    simp only [Wr.gr]
    have := figF_pos (b := b) (n := n) hb
    omega
  | whole c =>
    simp only [Wr.ok] at h
    simp only [Wr.gr]
    have := isTot_pos (totF_is (b := b) (n := n + c) hb (by omega)).tot
    omega
  | pieces m c =>
    simp only [Wr.ok] at h
    simp only [Wr.gr]
    have e := Int.mul_ediv_add_emod n m
    have r0 := Int.emod_nonneg n (show m ≠ 0 by omega)
    have q0 := Int.ediv_nonneg hn (show 0 ≤ m by omega)
    have f0 := figF_pos (b := b) (n := m) hb
    have f1 := figF_pos (b := b) (n := n % m) hb
    have p := Int.mul_le_mul_of_nonneg_left (show m ≤ m + c + figF b m by omega) q0
    have c := Int.mul_comm m (n / m)
    split <;> omega
  | cut m c =>
    simp only [Wr.ok] at h
    simp only [Wr.gr]
    have := Int.mul_nonneg (beg_le hn h.1).2 (show 0 ≤ c by omega)
    omega
  | coded m c =>
    simp only [Wr.ok] at h
    simp only [Wr.gr]
    have h1 := bg m h.1
    have := Int.mul_le_mul_of_nonneg_left (show m ≤ c by omega) (beg_le hn h.1).2
    omega
  | filled m =>
    simp only [Wr.ok] at h
    exact bg m h.1
end Sz
/-! data that can be shown and compared: how deep, how long the text -/
namespace Sz
open PySem PySem.Spec PyProof.Rows L2
/-- can be shown: at most so deep, at most so long -/
structure Sho (d : PyData) (k m : Nat) : Prop where
  able : d.showable = true
  nod : d.hasDict = false
  deep : d.depth ≤ k
  long : d.shown.length ≤ m
theorem Sho.mono {d : PyData} {k m k' m' : Nat} (h : Sho d k m) (hk : k ≤ k') (hm : m ≤ m') : Sho d k' m' := ⟨h.able, h.nod, Nat.le_trans h.deep hk, Nat.le_trans h.long hm⟩
theorem sho_int {i : Int} (k : Nat) (hk : 0 < k) (hk2 : k ≤ 500) (h : i.natAbs < 10 ^ k) : Sho (.int i) 0 (k + 1) := by
  refine ⟨?_, rfl, Nat.le_refl _, ?_⟩
  · have h2 : i.natAbs < 2 ^ 1800 := Nat.lt_of_lt_of_le h (Nat.le_trans (Nat.pow_le_pow_right (by decide) hk2) (by decide))
    show decide (i.natAbs.log2 < 1920) = true
    exact decide_eq_true (Nat.lt_of_lt_of_le (PySem.Flt.log2_lt_of (by decide) h2) (by decide))
  · have h1 := int_text_length_le10 hk h
    have e : (Str.ofString (toString i)).length = (toString i : String).length := PySem.ofString_length _
    show (Str.ofString (toString i)).length ≤ k + 1
    omega
theorem sho_bool (b : Bool) : Sho (.bool b) 0 5 := by cases b <;> exact ⟨rfl, rfl, Nat.le_refl _, by decide⟩
theorem sho_none : Sho .none 0 4 := ⟨rfl, rfl, Nat.le_refl _, by decide⟩
theorem sho_all {k m : Nat} : ∀ ds : List PyData, (∀ d ∈ ds, Sho d k m) → PyData.showableAll ds = true ∧ PyData.hasDictAll ds = false ∧ PyData.depthAll ds ≤ k ∧ ((PyData.shownAll ds).map (·.length)).sum ≤ m * ds.length ∧ (PyData.shownAll ds).length = ds.length
  | [], _ => ⟨rfl, rfl, Nat.zero_le _, by simp [PyData.shownAll], rfl⟩
  | d :: ds, h => by
    obtain ⟨h1, h2, h3, h4, h5⟩ := sho_all ds fun y hy => h y (List.mem_cons_of_mem _ hy)
    obtain ⟨g1, g2, g3, g4⟩ := h d (List.mem_cons_self ..)
    refine ⟨?_, ?_, ?_, ?_, ?_⟩
    · show (d.showable && PyData.showableAll ds) = true
      rw [g1, h1]
      rfl
    · show (d.hasDict || PyData.hasDictAll ds) = false
      rw [g2, h2]
      rfl
    · show max d.depth (PyData.depthAll ds) ≤ k
      omega
    · show ((d.shown :: PyData.shownAll ds).map (·.length)).sum ≤ m * (ds.length + 1)
      rw [List.map_cons, List.sum_cons, Nat.mul_add, Nat.mul_one]
      omega
    · show (PyData.shownAll ds).length + 1 = ds.length + 1
      rw [h5]
theorem sho_tuple {k m : Nat} {ds : List PyData} (h : ∀ d ∈ ds, Sho d k m) : Sho (.tuple ds) (k + 1) ((m + 2) * ds.length + 4) := by
  obtain ⟨h1, h2, h3, h4, h5⟩ := sho_all ds h
  refine ⟨h1, h2, ?_, ?_⟩
  · show PyData.depthAll ds + 1 ≤ k + 1
    omega
  · show (tupleText (PyData.shownAll ds)).length ≤ _
    have h6 := tupleText_len_le (PyData.shownAll ds)
    rw [h5] at h6
    rw [Nat.add_mul]
    omega
theorem sho_list {k m : Nat} {ds : List PyData} (h : ∀ d ∈ ds, Sho d k m) : Sho (.list ds) (k + 1) ((m + 2) * ds.length + 4) := by
  obtain ⟨h1, h2, h3, h4, h5⟩ := sho_all ds h
  refine ⟨h1, h2, ?_, ?_⟩
  · show PyData.depthAll ds + 1 ≤ k + 1
    omega
  · show (listText (PyData.shownAll ds)).length ≤ _
    have h6 := listText_len_le (PyData.shownAll ds)
    rw [h5] at h6
    rw [Nat.add_mul]
    omega
/-! what can be laid and compared -/
structure Shp (d : PyData) (k : Nat) : Prop where
  lay : d.canLay0 = true
  deep : d.depth ≤ k
theorem Shp.mono {d : PyData} {k k' : Nat} (h : Shp d k) (hk : k ≤ k') : Shp d k' := ⟨h.lay, Nat.le_trans h.deep hk⟩
theorem Shp.shaped {d : PyData} {k : Nat} (h : Shp d k) (hk : k ≤ 30 := by decide) : SeqAt.shaped d = true := by
  have h2 := h.deep
  simp [SeqAt.shaped, h.lay]
  omega
theorem shp_int (i : Int) : Shp (.int i) 0 := ⟨rfl, Nat.le_refl _⟩
theorem shp_str {s : Str} (h : PyData.strOk s = true) : Shp (.str s) 0 := ⟨h, Nat.le_refl _⟩
theorem shp_bool (b : Bool) : Shp (.bool b) 0 := ⟨rfl, Nat.le_refl _⟩
theorem shp_none : Shp .none 0 := ⟨rfl, Nat.le_refl _⟩
theorem shp_all {k : Nat} : ∀ ds : List PyData, (∀ d ∈ ds, Shp d k) → PyData.canLayAll0 ds = true ∧ PyData.depthAll ds ≤ k
  | [], _ => ⟨rfl, Nat.zero_le _⟩
  | d :: ds, h => by
    obtain ⟨h1, h2⟩ := shp_all ds fun y hy => h y (List.mem_cons_of_mem _ hy)
    obtain ⟨g1, g2⟩ := h d (List.mem_cons_self ..)
    refine ⟨?_, ?_⟩
    · show (d.canLay0 && PyData.canLayAll0 ds) = true
      rw [g1, h1]
      rfl
    · show max d.depth (PyData.depthAll ds) ≤ k
      omega
theorem shp_tuple {k : Nat} {ds : List PyData} (h : ∀ d ∈ ds, Shp d k) : Shp (.tuple ds) (k + 1) := by
  obtain ⟨h1, h2⟩ := shp_all ds h
  refine ⟨h1, ?_⟩
  show PyData.depthAll ds + 1 ≤ k + 1
  omega
theorem shp_list {k : Nat} {ds : List PyData} (h : ∀ d ∈ ds, Shp d k) : Shp (.list ds) (k + 1) := by
  obtain ⟨h1, h2⟩ := shp_all ds h
  refine ⟨h1, ?_⟩
  show PyData.depthAll ds + 1 ≤ k + 1
  omega
theorem shp_ints_t (xs : List Int) : Shp (.tuple (xs.map PyData.int)) 1 := shp_tuple (k := 0) fun d hd => by
  obtain ⟨i, _, rfl⟩ := List.mem_map.mp hd
  exact shp_int i
theorem shp_ints_l (xs : List Int) : Shp (.list (xs.map PyData.int)) 1 := shp_list (k := 0) fun d hd => by
  obtain ⟨i, _, rfl⟩ := List.mem_map.mp hd
  exact shp_int i
end Sz
/-! str(x), f"{x}" by an own __str__; x == y, x != y by an own __eq__ -/
namespace Sz
open PySem PySem.Spec PyProof.Rows L2
/-- what the class must have -/
structure StrK (K : PySem.W.Frag) (C : Addr) : Prop where
  fmt : PySem.W.findIn K (.ref C) "__format__" = some (some (.builtin "object.__format__"))
  mro : PySem.W.mroIn K C (.type "object") = some true
  ne : PySem.W.findIn K (.ref C) "__ne__" = some (some (.builtin "object.__ne__"))
def strB (K : PySem.W.Frag) (C : Addr) : Bool := He.eqO (PySem.W.findIn K (.ref C) "__format__") (some (some (.builtin "object.__format__"))) && (decide (PySem.W.mroIn K C (.type "object") = some true) && He.eqO (PySem.W.findIn K (.ref C) "__ne__") (some (some (.builtin "object.__ne__"))))
theorem strB_ok {K : PySem.W.Frag} {C : Addr} (h : strB K C = true) : StrK K C := by
  obtain ⟨h1, h⟩ := He.ba h
  obtain ⟨h2, h3⟩ := He.ba h
  exact ⟨He.eqO_ok h1, of_decide_eq_true h2, He.eqO_ok h3⟩
section
variable {X : Cx} {CX : CXT} {k n : Nat} {C : Str} {ps : List Str} {sp : Sp} {E : XK}
/-- the own method of an instance is called somewhere below the running body -/
theorem run_own {m : Str} (G : PromM X.prog X.w X.K X.mg X.base CX k C m ps sp) (hx : Passes CX X E) {A : Around} (sb : L2.Sub X k A) {pins : List (Addr × Obj)} {s : Shared} {σ : L2.St} {H : Hp} {vs : List V} {us : List Value} {Q : VK}
    (I : Inv X pins σ H s) (r : Vals vs us) (h : sp vs H Q E) : wpAny (model X.prog X.w) A (call (.ref (He.ma X.K (He.ga X.K C) m)) us) (EP X pins σ Q) X.xe s := by
  obtain ⟨fd, F, b⟩ := G.ex
  have hl := F.len _ _ _ _ h
  have e0 : Env0 X.prog X.w X.K X.mg X.base A X.stack s H := by
    have e := I.env0
    exact ⟨by rw [sb.fr]; exact e.frames, e.mod, e.bs, e.bsz, e.funs, e.frf, e.hok, e.bare⟩
  have hl2 : us.length = ps.length := by rw [← hl]; exact r.length.symm
  refine wpAny_call (codeAny_mono (F.run A X.stack s H ⟨us, []⟩ us vs _ E sb.room e0 (by
    have := b s us I.kIn (by simpa using hl2)
    simpa using this) r h) fun rr s' hq => ?_)
  cases rr with
  | error e => exact hx pins σ H s e s' I hq
  | ok fl =>
    cases fl with
    | ret v =>
      obtain ⟨z, H', I', rz, q⟩ := I.after hq
      exact ⟨z, H', I', rz, q⟩
    | next => exact False.elim hq
    | brk => exact False.elim hq
    | cont => exact False.elim hq
theorem strBack_of {pins : List (Addr × Obj)} {σ : L2.St} {Q : VK} {v : Value} {s' : Shared} (h : EP X pins σ (fun v H => ∃ y : Str, v = .str y ∧ Q (.str y) H) v s') : PySem.W.StrBack (EP X pins σ Q) v s' := by
  obtain ⟨z, H', I', rz, y, rfl, q⟩ := h
  obtain ⟨t, rfl⟩ := rz
  exact ⟨.str y, H', I', ⟨t, rfl⟩, q⟩
/-- f"{x}" by an own __str__ -/
def tFmtO (C : Addr) (sp : Sp) (E : XK) (te : TE) : TE := fun σ H Q => te σ H fun x H1 => ∃ p dx fs, x = .ref p ∧ H1 p = some (.ins C dx fs) ∧ sp [.ref p] H1 (fun v H2 => ∃ y : Str, v = .str y ∧ Q (.str y) H2) E
theorem pe_fmtO {e : Expr} {te : TE} {pos : Pos} (a : StrK X.K (He.ga X.K C)) (G : PromM X.prog X.w X.K X.mg X.base CX k C "__str__" ps sp) (hr : Room (k + 1) X.A) (hx : Passes CX X E) (he : PE X e te) :
    PE X (.FormattedValue e (-1) none pos) (tFmtO (He.ga X.K C) sp E te) := by
  refine ⟨fun pins s σ H Q I h => ?_⟩
  refine wpAny_FormattedValue_plain (thn (he.run pins s σ H _ I h) fun v s1 hv => ?_)
  obtain ⟨x, H1, I1, r1, p, dx, fs, rfl, hp, q⟩ := hv
  obtain rfl : v = Value.ref p := r1
  obtain ⟨m1, O1, _⟩ := ins_get I1.hok hp
  obtain ⟨od1, J1, _⟩ := O1.look
  refine PySem.W.kfo_fieldS hr.in1.units0 I1.kIn J1 a.fmt a.mro G.me.at_ G.me.fn ?_
  exact wpAny_mono (run_own G hx (A := X.A.in1) ⟨hr.in1, rfl⟩ (vs := [.ref p]) (us := [.ref p]) (I1.tok _) (.cons rfl .nil) q) (fun v s' z => strBack_of z) fun _ _ z => z
/-- str(x) by an own __str__ -/
theorem cr_strO (G : PromM X.prog X.w X.K X.mg X.base CX k C "__str__" ps sp) (hr : Room (k + 2) X.A) (hx : Passes CX X E) :
    CallR X (.type "str") (fun xs H Q => ∃ p dx fs, xs = [.ref p] ∧ H p = some (.ins (He.ga X.K C) dx fs) ∧ sp [.ref p] H (fun v H2 => ∃ y : Str, v = .str y ∧ Q (.str y) H2) E) := by
  intro pins s σ H xs us Q I r h
  obtain ⟨p, dx, fs, rfl, hp, h⟩ := h
  obtain ⟨u, rfl, ru⟩ := vals1 r
  obtain rfl : u = Value.ref p := ru
  obtain ⟨m1, O1, _⟩ := ins_get I.hok hp
  obtain ⟨od1, J1, _⟩ := O1.look
  refine callType_codes (T := "str") (Bi := Builtin.«object.__init__») (Q₁ := fun r s₁ => ∃ y u, r = .str y u ∧ EP X pins σ Q r s₁) PySem.F.called_str (PySem.F.typeCall_str_1 _) PySem.F.entry_object_init ?_ ?_
  · refine codeAny_of_tree ?_
    show wpAny _ X.A.in1.in1 (do checkBuiltinCall "str.__new__" ⟨[.type "str", .ref p], []⟩; again (.builtin "str.__new__" ⟨[.type "str", .ref p], []⟩)) _ _ s
    refine wpAny_bind (wpAny_of_eq (PySem.F.newCall_str_1 _) (wpAny_pure ⟨plainId_quiet (by decide +kernel) _, codeAny_builtin PySem.F.entry_str_new ?_⟩))
    rw [Around.under_plainId (by decide +kernel) _]
    rw [str_new_tree]
    refine wpAny_bind (wpAny_pure ?_)
    refine wpAny_bind (wpAny_of_eq isSubtype_str_str ?_)
    have key : wpAny (model X.prog X.w) X.A.in1.in1 (PySem.Builtin.Str.strOf (.ref p)) (fun r s₁ => ∃ y u, r = .str y u ∧ EP X pins σ Q r s₁) X.xe s := by
      unfold PySem.Builtin.Str.strOf
      rw [show PySem.Builtin.Str.isExactStr (.ref p) = false from rfl]
      refine wpAny_bind (m := cRoomFor _ _) (wpAny_cRoomFor hr.in1.in1.units0 ?_)
      refine wpAny_bind (m := callSpecial? (.ref p) (Str.ofString "__str__")) (PySem.W.special_fn I.kIn J1 G.me.at_ (beq_iff_eq.mp G.me.fn) (wpAny_mono (run_own G hx (A := X.A.in1.in1) ⟨hr.in1.in1, rfl⟩ (vs := [.ref p]) (us := [.ref p]) I (.cons rfl .nil) h) (fun v s' z => ?_) fun _ _ y => y))
      obtain ⟨z, H', I', rz, y, rfl, q⟩ := z
      obtain ⟨t, rfl⟩ := rz
      exact wpAny_pure ⟨_, _, rfl, .str y, H', I', ⟨t, rfl⟩, q⟩
    exact wpAny_bind (wpAny_mono key (fun r s₁ hr => wpAny_pure hr) fun _ _ y => y)
  · rintro obj s₁ ⟨y, u, rfl, hq⟩
    exact ⟨typeIs_str _ _ _, PySem.F.args_object_init_2 _ _, object_init_meets PySem.F.called_str.init.lookup PySem.F.called_str.made (by decide) X.prog X.w X.A.in1 _ s₁ ⟨typeIs_str _ _ _, rfl, hq⟩⟩
/-- x == y by an own __eq__ -/
theorem op_eqO (G : PromM X.prog X.w X.K X.mg X.base CX k C "__eq__" ps sp) (hr : Room k X.A) (hx : Passes CX X E) :
    OpR X (compareOp .Eq) (fun x y H Q => ∃ p q dx fs dy gs, x = .ref p ∧ y = .ref q ∧ H p = some (.ins (He.ga X.K C) dx fs) ∧ H q = some (.ins (He.ga X.K C) dy gs) ∧ sp [.ref p, .ref q] H (fun v H2 => ∃ b : Bool, v = .bl b ∧ Q (.bl b) H2) E) := by
  intro pins s σ H x y v u Q I rx ry h
  obtain ⟨p, q, dx, fs, dy, gs, rfl, rfl, hp, hq, h⟩ := h
  obtain rfl : v = Value.ref p := rx
  obtain rfl : u = Value.ref q := ry
  obtain ⟨m1, O1, _⟩ := ins_get I.hok hp
  obtain ⟨od1, J1, _⟩ := O1.look
  obtain ⟨m2, O2, _⟩ := ins_get I.hok hq
  obtain ⟨od2, J2, _⟩ := O2.look
  obtain ⟨m, hF⟩ := I.fr
  show wpAny (model X.prog X.w) X.A (richCompare .Eq (.ref p) (.ref q)) (EP X pins σ Q) X.xe s
  refine PySem.W.cmp_K (op := .Eq) (tb := .ref (He.ga X.K C)) hr.units0 hF I.ok.mod.kin J1 J2.type (by simp [PySem.W.notFirst]) G.me.at_ G.me.fn ?_
  refine wpAny_mono (run_own G hx (A := X.A) ⟨hr, rfl⟩ (vs := [.ref p, .ref q]) (us := [.ref p, .ref q]) I (.cons rfl (.cons rfl .nil)) h) (fun v s' z => ?_) fun _ _ y => y
  obtain ⟨z, H', I', rz, b, rfl, q⟩ := z
  cases rz
  exact ⟨.bl b, H', I', rfl, q⟩
/-- x != y by an own __eq__ -/
theorem op_neO (a : StrK X.K (He.ga X.K C)) (G : PromM X.prog X.w X.K X.mg X.base CX k C "__eq__" ps sp) (hr : Room (k + 1) X.A) (hx : Passes CX X E) :
    OpR X (compareOp .NotEq) (fun x y H Q => ∃ p q dx fs dy gs, x = .ref p ∧ y = .ref q ∧ H p = some (.ins (He.ga X.K C) dx fs) ∧ H q = some (.ins (He.ga X.K C) dy gs) ∧ sp [.ref p, .ref q] H (fun v H2 => ∃ b : Bool, v = .bl b ∧ Q (.bl !b) H2) E) := by
  intro pins s σ H x y v u Q I rx ry h
  obtain ⟨p, q, dx, fs, dy, gs, rfl, rfl, hp, hq, h⟩ := h
  obtain rfl : v = Value.ref p := rx
  obtain rfl : u = Value.ref q := ry
  obtain ⟨m1, O1, _⟩ := ins_get I.hok hp
  obtain ⟨od1, J1, _⟩ := O1.look
  obtain ⟨m2, O2, _⟩ := ins_get I.hok hq
  obtain ⟨od2, J2, _⟩ := O2.look
  show wpAny (model X.prog X.w) X.A (richCompare .NotEq (.ref p) (.ref q)) (EP X pins σ Q) X.xe s
  have one : wpAny (model X.prog X.w) X.A (tryCompare (.ref p) "__ne__" (.ref q)) (fun r s' => ∃ v, r = some v ∧ EP X pins σ Q v s') X.xe s := by
    unfold tryCompare
    refine wpAny_bind ?_
    simp only [callSpecialIfBound?, bindSpecialIfBound?]
    refine wpAny_holding (wpAny_bind (wpAny_bind (wpAny_bind (J1.type.here ((PySem.W.looks_findIn I.kIn a.ne).here ?_)))))
    refine wpAny_bind (wpAny_askSetting (wpAny_ite ?_))
    have run : wpAny (model X.prog X.w) X.A (call (.builtin "object.__ne__") [.ref p, .ref q]) (fun r s' => ∃ b : Bool, r = .bool b ∧ EP X pins σ Q (.bool b) s') X.xe s := by
      refine wpAny_call (codeAny_call_builtin PySem.F.slot_object_ne.plain PySem.F.entry_object_ne (PySem.W.check_slot (i := "object.__ne__") (owner := "object") (n := "__ne__") (by decide +kernel) (by decide +kernel) (J1.type.andThen (PySem.W.looks_mroIn I.kIn a.mro)) (PySem.F.args_object_ne_2 _ _) ?_))
      unfold Builtin.«object.__ne__»
      refine wpAny_bind (m := slotArgs "__ne__" 1 _) (wpAny_pure ?_)
      refine wpAny_bind (m := cRoomFor _ _) (wpAny_cRoomFor hr.in1.units0 ?_)
      refine wpAny_bind (m := callSpecialIfBound? (.ref p) (Str.ofString "__eq__") _) (PySem.W.ifBound_K I.kIn J1 G.me.at_ G.me.fn (wpAny_mono (run_own G hx (A := X.A.in1) ⟨hr.in1, rfl⟩ (vs := [.ref p, .ref q]) (us := [.ref p, .ref q]) I (.cons rfl (.cons rfl .nil)) h) (fun r s' z => ?_) fun _ _ y => y))
      obtain ⟨z, H', I', rz, b, rfl, q⟩ := z
      cases rz
      exact wpAny_bind (wpAny_truthy_bool (wpAny_pure ⟨!b, rfl, .bl !b, H', I', rfl, q⟩))
    have fin : wpAny (model X.prog X.w) X.A (call (.builtin "object.__ne__") ([.ref p] ++ [.ref q]) >>= fun v => pure (some v)) (fun r s2 => ∃ b : Bool, r = some (.bool b) ∧ EP X pins σ Q (.bool b) s2) X.xe s :=
      wpAny_bind (wpAny_mono run (fun v s' h' => wpAny_pure (by obtain ⟨b, rfl, h'⟩ := h'; exact ⟨b, rfl, h'⟩)) fun _ _ h' => h')
    have fin2 := wpAny_mono (Q' := fun r s2 => wpAny (model X.prog X.w) X.A (match r with
      | some .notImplemented => pure none
      | none => pure none
      | some v => pure (some v) : Sem (Option Value)) (fun r s' => ∃ v, r = some v ∧ EP X pins σ Q v s') X.xe s2) fin (fun r s2 z => by
        obtain ⟨b, e, z⟩ := z
        subst e
        exact wpAny_pure ⟨_, rfl, z⟩) fun _ _ z => z
    split
    · exact wpAny_bind (wpAny_of_eq (PySem.F.slot_object_ne.bind _) (wpAny_pure (by exact fin2)))
    · exact wpAny_tryCatch (wpAny_bind (wpAny_of_eq (PySem.F.slot_object_ne.bind _) (wpAny_pure (by exact fin2))))
  unfold richCompare
  simp only [oneThing_ref]
  refine wpAny_holding (wpAny_bind (wpAny_cRoomFor hr.units0 ?_))
  rw [cmpInfo_NotEq]
  dsimp only
  refine wpAny_bind (J1.type.here (wpAny_bind (J2.type.here ?_)))
  rw [show (Value.ref (He.ga X.K C) != Value.ref (He.ga X.K C)) = false from by simp]
  simp only [Bool.false_eq_true, if_false]
  refine wpAny_bind (wpAny_pure ?_)
  simp only [Bool.false_eq_true, if_false]
  refine wpAny_bind (wpAny_mono one (fun r s' z => ?_) fun _ _ e => e)
  obtain ⟨v, rfl, hq⟩ := z
  exact wpAny_pure hq
end
end Sz
/-! == by an own __eq__ that is promised to say True -/
namespace Sz
open PySem PySem.Spec PyProof.Rows L2
section
variable {X : Cx} {CX : CXT} {k : Nat} {C : Str} {ps : List Str} {R : Addr → Addr → Hp → Prop} {E : XK}
theorem rcG_insP (G : PromM X.prog X.w X.K X.mg X.base CX k C "__eq__" ps (spEq R)) (hx : Passes CX X E) : RcG X k (DIns (He.ga X.K C) R) := by
  obtain ⟨fd, F, b⟩ := G.ex
  exact rcG_ins F G.me.at_ G.me.fn b hx
theorem eqG_insP (G : PromM X.prog X.w X.K X.mg X.base CX k C "__eq__" ps (spEq R)) (hx : Passes CX X E) : EqG X k (DIns (He.ga X.K C) R) := by
  obtain ⟨fd, F, b⟩ := G.ex
  exact eqG_ins F G.me.at_ G.me.fn b hx
end
end Sz
/-! zip of a tuple and a list (printed by wip/zipm.py: the kit's walk of two tuples, turned) -/
namespace Sz
open PySem
open PySem.Sem (wp)
section
variable {prog : Program} {w : World} {A : Around} {E : Value → Shared → Prop} {s : Shared}
theorem zipM_next_item {z TI TO i1 i2 l1 l2 : Addr} {k1 k2 : Nat} {xs ys : Array Value} {x y a b : Value} {Q : Value → Shared → Prop} (D : ZipApart z TI TO i1 i2 l1 l2)
    (hz : IsZip s.heap z TI TO .none) (hTI : IsPair s.heap TI (.ref i1) (.ref i2)) (hTO : IsPair s.heap TO a b)
    (h1 : s.heap.IsTupleIter i1 l1 k1) (h2 : s.heap.IsListIter i2 l2 k2) (hl1 : s.heap.IsTuple l1 xs) (hl2 : s.heap.IsList l2 ys) (hx : xs[k1]? = some x) (hy : ys[k2]? = some y)
    (hQ : ∀ h', IsZip h' z TI TO (rawInt s.heap.objs.size) → IsPair h' TO x y → h'.IsTupleIter i1 l1 (k1 + 1) → h'.IsListIter i2 l2 (k2 + 1) → IsPair h' s.heap.objs.size x y → h'.objs.size = s.heap.objs.size + 1 →
      (∀ c o, c ≠ z → c ≠ TO → c ≠ i1 → c ≠ i2 → s.heap.get? c = some o → h'.get? c = some o) → Q (.ref s.heap.objs.size) { s with heap := h' }) :
    wpAny (model prog w) A (Builtin.«zip.__next__» ⟨[.ref z], []⟩) (fun fin s' => ∃ v, fin = .done (.ret v) ∧ Q v s') E s := by
  show wpAny _ _ (field (.ref z) 2 >>= _) _ _ _
  refine wpAny_bind (wpAny_field hz rfl (x := .bool false) rfl ?_)
  show wpAny _ _ (field (.ref z) 3 >>= _) _ _ _
  refine wpAny_bind (wpAny_field hz rfl (x := .ref TI) rfl ?_)
  refine wpAny_bind (wpAny_seqItems hTI rfl ?_)
  show wpAny _ _ (Builtin.SmallTypes.ownedTupleIsFree (.ref z) >>= _) _ _ _
  refine wpAny_bind ?_
  unfold Builtin.SmallTypes.ownedTupleIsFree
  refine wpAny_bind (wpAny_field hz rfl (x := .none) rfl (wpAny_pure ?_))
  simp only [if_true]
  refine wpAny_bind (wpAny_rule ?_)
  refine wpAny_bind (wpAny_field hz rfl (x := .ref TO) rfl ?_)
  refine wpAny_bind (wpAny_setField_rec hz (by simp) fun h₁ hz₁ hs₁ => ?_)
  replace hz₁ : IsZip h₁ z TI TO .ellipsis := hz₁
  refine wpAny_bind ?_
  simp only [List.zipIdx_cons, List.zipIdx_nil, List.forIn_cons, List.forIn_nil]

  refine wpAny_bind (wpAny_bind (wpAny_onRaise ?_))
  show wpAny _ _ (Builtin.SmallTypes.nextOf (.ref i1) >>= _) _ _ _
  refine wpAny_bind (RZ.nextOf_tuple_item (h1.extBut hs₁.extBut D.i1z) (hl1.extBut hs₁.extBut D.l1z) hx fun h₂ h1₂ hs₂ => wpAny_pure ?_)
  have hTO₂ : IsPair h₂ TO a b := hs₂.extBut _ _ D.TOi1 (hs₁.extBut _ _ D.TOz hTO)
  refine wpAny_bind (wpAny_seqItems hTO₂ rfl ?_)
  refine wpAny_bind (wpAny_updateSeq_pair hTO₂ fun h₃ hTO₃ hs₃ => ?_)
  replace hTO₃ : IsPair h₃ TO x b := hTO₃
  refine wpAny_bind (wpAny_letGo (wpAny_pure ?_))

  refine wpAny_bind (wpAny_bind (wpAny_onRaise ?_))
  show wpAny _ _ (Builtin.SmallTypes.nextOf (.ref i2) >>= _) _ _ _
  refine wpAny_bind (wpAny_nextOf_list_item (((h2.extBut hs₁.extBut D.i2z).extBut hs₂.extBut D.i12.symm).extBut hs₃.extBut D.TOi2.symm)
    (((hl2.extBut hs₁.extBut D.l2z).extBut hs₂.extBut D.l2i1).extBut hs₃.extBut D.l2TO) hy fun h₄ h2₄ hs₄ => wpAny_pure ?_)
  have hTO₄ : IsPair h₄ TO x b := hs₄.extBut _ _ D.TOi2 hTO₃
  refine wpAny_bind (wpAny_seqItems hTO₄ rfl ?_)
  refine wpAny_bind (wpAny_updateSeq_pair hTO₄ fun h₅ hTO₅ hs₅ => ?_)
  replace hTO₅ : IsPair h₅ TO x y := hTO₅
  refine wpAny_bind (wpAny_letGo (wpAny_pure (wpAny_pure ?_)))

  refine wpAny_bind (wpAny_seqItems hTO₅ rfl ?_)
  refine wpAny_bind (wpAny_newTuple ?_)
  have hsz : h₅.objs.size = s.heap.objs.size := by rw [hs₅.1, hs₄.1, hs₃.1, hs₂.1, hs₁.1]
  have hz₅ : IsZip h₅ z TI TO .ellipsis := hs₅.extBut _ _ D.TOz.symm (hs₄.extBut _ _ D.i2z.symm (hs₃.extBut _ _ D.TOz.symm (hs₂.extBut _ _ D.i1z.symm hz₁)))
  have hk₅ : ∀ c o, c ≠ z → c ≠ TO → c ≠ i1 → c ≠ i2 → s.heap.get? c = some o → h₅.get? c = some o := fun c o c1 c2 c3 c4 e =>
    hs₅.extBut _ _ c2 (hs₄.extBut _ _ c4 (hs₃.extBut _ _ c2 (hs₂.extBut _ _ c3 (hs₁.extBut _ _ c1 e))))
  have h1₅ : h₅.IsTupleIter i1 l1 (k1 + 1) := ((h1₂.extBut hs₃.extBut D.TOi1.symm).extBut hs₄.extBut D.i12).extBut hs₅.extBut D.TOi1.symm
  have h2₅ : h₅.IsListIter i2 l2 (k2 + 1) := h2₄.extBut hs₅.extBut D.TOi2.symm
  have hzlt : z < h₅.objs.size := Heap.lt_size hz₅
  have hTOlt : TO < h₅.objs.size := Heap.lt_size hTO₅
  have hi1lt : i1 < h₅.objs.size := by obtain ⟨_, e, _⟩ := h1₅; exact Heap.lt_size e
  have hi2lt : i2 < h₅.objs.size := by obtain ⟨_, e, _⟩ := h2₅; exact Heap.lt_size e
  show wpAny _ _ (Builtin.SmallTypes.ownedTupleHandOut (.ref z) (.ref h₅.objs.size) >>= _) _ _ _
  refine wpAny_bind ?_
  unfold Builtin.SmallTypes.ownedTupleHandOut
  have hz₆ : IsZip (h₅.push { cls := .type "tuple", data := .seq #[x, y] }) z TI TO .ellipsis := Heap.get?_push_of_some _ hz₅
  refine wpAny_bind (wpAny_setField_rec hz₆ (by simp) fun h₇ hz₇ hs₇ => ?_)
  replace hz₇ : IsZip h₇ z TI TO (rawInt h₅.objs.size) := hz₇
  refine wpAny_setField_rec hz₇ (by simp) fun h₈ hz₈ hs₈ => ?_
  replace hz₈ : IsZip h₈ z TI TO (rawInt h₅.objs.size) := hz₈
  have up : ∀ c o, c ≠ z → h₅.get? c = some o → h₈.get? c = some o := fun c o c1 e => hs₈.extBut _ _ c1 (hs₇.extBut _ _ c1 (Heap.get?_push_of_some _ e))
  have hT₈ : IsPair h₈ h₅.objs.size x y := hs₈.extBut _ _ (Nat.ne_of_gt hzlt) (hs₇.extBut _ _ (Nat.ne_of_gt hzlt) (Heap.get?_push_size _ rfl))
  have hz8 : h₈.objs.size = h₅.objs.size + 1 := by rw [hs₈.1, hs₇.1, Heap.size_push]
  rw [hsz] at hz₈ hT₈ hz8
  refine wpAny_pure ⟨_, rfl, ?_⟩
  show Q (.ref h₅.objs.size) _
  rw [hsz]
  exact hQ h₈ hz₈ (up _ _ D.TOz hTO₅) (h1₅.at fun o e => up _ o D.i1z e) (h2₅.at fun o e => up _ o D.i2z e) hT₈ hz8 fun c o c1 c2 c3 c4 e => up c o c1 (hk₅ c o c1 c2 c3 c4 e)

theorem zipM_next_end {z TI TO i1 i2 l1 l2 : Addr} {k1 k2 : Nat} {xs ys : Array Value} {a b : Value} {Q : Fin → Shared → Prop} (hh : A.handled = none) (D : ZipApart z TI TO i1 i2 l1 l2)
    (hz : IsZip s.heap z TI TO .none) (hTI : IsPair s.heap TI (.ref i1) (.ref i2)) (hTO : IsPair s.heap TO a b)
    (h1 : s.heap.IsTupleIter i1 l1 k1) (h2 : s.heap.IsListIter i2 l2 k2) (hl1 : s.heap.IsTuple l1 xs) (hl2 : s.heap.IsList l2 ys) (hend : xs[k1]? = none ∨ ys[k2]? = none)
    (hE : ∀ h' e, (∀ c o, c ≠ z → c ≠ TO → c ≠ i1 → c ≠ i2 → s.heap.get? c = some o → h'.get? c = some o) → (∃ o, h'.get? e = some o ∧ o.cls = .type "StopIteration") → E (.ref e) { s with heap := h' }) :
    wpAny (model prog w) A (Builtin.«zip.__next__» ⟨[.ref z], []⟩) Q E s := by
  show wpAny _ _ (field (.ref z) 2 >>= _) _ _ _
  refine wpAny_bind (wpAny_field hz rfl (x := .bool false) rfl ?_)
  show wpAny _ _ (field (.ref z) 3 >>= _) _ _ _
  refine wpAny_bind (wpAny_field hz rfl (x := .ref TI) rfl ?_)
  refine wpAny_bind (wpAny_seqItems hTI rfl ?_)
  show wpAny _ _ (Builtin.SmallTypes.ownedTupleIsFree (.ref z) >>= _) _ _ _
  refine wpAny_bind ?_
  unfold Builtin.SmallTypes.ownedTupleIsFree
  refine wpAny_bind (wpAny_field hz rfl (x := .none) rfl (wpAny_pure ?_))
  simp only [if_true]
  refine wpAny_bind (wpAny_rule ?_)
  refine wpAny_bind (wpAny_field hz rfl (x := .ref TO) rfl ?_)
  refine wpAny_bind (wpAny_setField_rec hz (by simp) fun h₁ hz₁ hs₁ => ?_)
  replace hz₁ : IsZip h₁ z TI TO .ellipsis := hz₁
  refine wpAny_bind ?_
  simp only [List.zipIdx_cons, List.zipIdx_nil, List.forIn_cons, List.forIn_nil]
  refine wpAny_bind (wpAny_bind (wpAny_onRaise ?_))
  show wpAny _ _ (Builtin.SmallTypes.nextOf (.ref i1) >>= _) _ _ _
  cases hx : xs[k1]? with
  | none =>
    refine wpAny_bind (RZ.nextOf_tuple_end hh (h1.extBut hs₁.extBut D.i1z) (hl1.extBut hs₁.extBut D.l1z) hx fun h₂ e hs₂ he => ?_)
    obtain ⟨oe, hoe, hce⟩ := he
    have hz₂ : IsZip h₂ z TI TO .ellipsis := hs₂ _ _ D.i1z.symm hz₁
    have hez : e ≠ z := fun x => by subst x; rw [hz₂] at hoe; cases hoe; simp at hce
    refine wpAny_setField_rec hz₂ (by simp) fun h₃ _ hs₃ => hE h₃ e (fun c o c1 _ c3 _ x => hs₃.extBut _ _ c1 (hs₂ _ _ c3 (hs₁.extBut _ _ c1 x))) ⟨oe, hs₃.extBut _ _ hez hoe, hce⟩
  | some x =>
    have hy : ys[k2]? = none := by rcases hend with h | h; rw [hx] at h; cases h; exact h
    refine wpAny_bind (RZ.nextOf_tuple_item (h1.extBut hs₁.extBut D.i1z) (hl1.extBut hs₁.extBut D.l1z) hx fun h₂ h1₂ hs₂ => wpAny_pure ?_)
    have hTO₂ : IsPair h₂ TO a b := hs₂.extBut _ _ D.TOi1 (hs₁.extBut _ _ D.TOz hTO)
    refine wpAny_bind (wpAny_seqItems hTO₂ rfl ?_)
    refine wpAny_bind (wpAny_updateSeq_pair hTO₂ fun h₃ hTO₃ hs₃ => ?_)
    refine wpAny_bind (wpAny_letGo (wpAny_pure ?_))
    refine wpAny_bind (wpAny_bind (wpAny_onRaise ?_))
    show wpAny _ _ (Builtin.SmallTypes.nextOf (.ref i2) >>= _) _ _ _
    refine wpAny_bind (wpAny_nextOf_list_end hh (((h2.extBut hs₁.extBut D.i2z).extBut hs₂.extBut D.i12.symm).extBut hs₃.extBut D.TOi2.symm)
      (((hl2.extBut hs₁.extBut D.l2z).extBut hs₂.extBut D.l2i1).extBut hs₃.extBut D.l2TO) hy fun h₄ e hs₄ he => ?_)
    obtain ⟨oe, hoe, hce⟩ := he
    have hz₄ : IsZip h₄ z TI TO .ellipsis := hs₄ _ _ D.i2z.symm (hs₃.extBut _ _ D.TOz.symm (hs₂.extBut _ _ D.i1z.symm hz₁))
    have hez : e ≠ z := fun x => by subst x; rw [hz₄] at hoe; cases hoe; simp at hce
    refine wpAny_setField_rec hz₄ (by simp) fun h₅ _ hs₅ => hE h₅ e (fun c o c1 c2 c3 c4 x => hs₅.extBut _ _ c1 (hs₄ _ _ c4 (hs₃.extBut _ _ c2 (hs₂.extBut _ _ c3 (hs₁.extBut _ _ c1 x))))) ⟨oe, hs₅.extBut _ _ hez hoe, hce⟩

theorem pyNext_zipM_item {z TI TO i1 i2 l1 l2 : Addr} {k1 k2 : Nat} {xs ys : Array Value} {x y a b : Value} {Q : Option Value → Shared → Prop} (D : ZipApart z TI TO i1 i2 l1 l2)
    (hz : IsZip s.heap z TI TO .none) (hTI : IsPair s.heap TI (.ref i1) (.ref i2)) (hTO : IsPair s.heap TO a b)
    (h1 : s.heap.IsTupleIter i1 l1 k1) (h2 : s.heap.IsListIter i2 l2 k2) (hl1 : s.heap.IsTuple l1 xs) (hl2 : s.heap.IsList l2 ys) (hx : xs[k1]? = some x) (hy : ys[k2]? = some y)
    (hQ : ∀ h', IsZip h' z TI TO (rawInt s.heap.objs.size) → IsPair h' TO x y → h'.IsTupleIter i1 l1 (k1 + 1) → h'.IsListIter i2 l2 (k2 + 1) → IsPair h' s.heap.objs.size x y → h'.objs.size = s.heap.objs.size + 1 →
      (∀ c o, c ≠ z → c ≠ TO → c ≠ i1 → c ≠ i2 → s.heap.get? c = some o → h'.get? c = some o) → Q (some (.ref s.heap.objs.size)) { s with heap := h' }) :
    wpAny (model prog w) A (pyNext (.ref z)) Q E s := by
  have hT : s.TypeIs (.ref z) "zip" := ⟨_, hz, rfl⟩
  unfold pyNext
  exact wpAny_bind (wpAny_attempt (wpAny_callSpecial?_slot (name := Str.ofString "__next__") hT F.slot_zip_next
    (wpAny_call_entry F.slot_zip_next hT F.entry_zip_next
      (zipM_next_item D hz hTI hTO h1 h2 hl1 hl2 hx hy fun h' a1 a2 a3 a4 a5 a6 a7 => wpAny_pure (hQ h' a1 a2 a3 a4 a5 a6 a7)) (F.args_zip_next_1 _))))

theorem pyNext_zipM_end {z TI TO i1 i2 l1 l2 : Addr} {k1 k2 : Nat} {xs ys : Array Value} {a b : Value} {Q : Option Value → Shared → Prop} (hh : A.handled = none) (D : ZipApart z TI TO i1 i2 l1 l2)
    (hz : IsZip s.heap z TI TO .none) (hTI : IsPair s.heap TI (.ref i1) (.ref i2)) (hTO : IsPair s.heap TO a b)
    (h1 : s.heap.IsTupleIter i1 l1 k1) (h2 : s.heap.IsListIter i2 l2 k2) (hl1 : s.heap.IsTuple l1 xs) (hl2 : s.heap.IsList l2 ys) (hend : xs[k1]? = none ∨ ys[k2]? = none)
    (hQ : ∀ h', (∀ c o, c ≠ z → c ≠ TO → c ≠ i1 → c ≠ i2 → s.heap.get? c = some o → h'.get? c = some o) → Q none { s with heap := h' }) : wpAny (model prog w) A (pyNext (.ref z)) Q E s := by
  have hT : s.TypeIs (.ref z) "zip" := ⟨_, hz, rfl⟩
  unfold pyNext
  refine wpAny_bind (wpAny_attempt (wpAny_callSpecial?_slot (name := Str.ofString "__next__") hT F.slot_zip_next
    (wpAny_call_entry F.slot_zip_next hT F.entry_zip_next (zipM_next_end hh D hz hTI hTO h1 h2 hl1 hl2 hend fun h' e hk he => ?_) (F.args_zip_next_1 _))))
  obtain ⟨o, ho, hc⟩ := he
  refine wpAny_bind (wpAny_isInstance (T := "StopIteration") (b := true) ⟨o, ho, hc⟩ isSubtype_stop ?_)
  exact wpAny_pure (hQ _ hk)
end

abbrev zipMH1 (h : Heap) (l1 : Addr) : Heap := h.push { cls := .type "tuple_iterator", data := .fields #[.ref l1, .int 0 0] }
abbrev zipMH2 (h : Heap) (l1 l2 : Addr) : Heap := (zipMH1 h l1).push { cls := .type "list_iterator", data := .fields #[.ref l2, .int 0 0] }
abbrev zipMH3 (h : Heap) (l1 l2 : Addr) : Heap := (zipMH2 h l1 l2).push { cls := .type "tuple", data := .seq #[.ref h.objs.size, .ref (zipMH1 h l1).objs.size] }
abbrev zipMH4 (h : Heap) (l1 l2 : Addr) : Heap := (zipMH3 h l1 l2).push { cls := .type "tuple", data := .seq #[.none, .none] }
abbrev zipMH5 (h : Heap) (l1 l2 : Addr) : Heap := (zipMH4 h l1 l2).push { cls := .type "zip", data := .fields #[.none, .bool false, .bool false, .ref (zipMH2 h l1 l2).objs.size, .ref (zipMH3 h l1 l2).objs.size] }

theorem meets_zipM_new (l1 l2 : Addr) (xs ys : Array Value) :
    Meets (Builtin.«zip.__new__» ⟨[.type "zip", .ref l1, .ref l2], []⟩) (fun _ R s => s.heap.IsTuple l1 xs ∧ s.heap.IsList l2 ys ∧
      R (.ok (.ret (.ref (zipMH4 s.heap l1 l2).objs.size))) { s with heap := zipMH5 s.heap l1 l2 }) :=
  .of_wp fun prog w A R s h => by
    obtain ⟨hp, g, d, tk, os⟩ := s; obtain ⟨hl1, hl2, h⟩ := h
    have hsub := sub_zip
    have hL1 : Heap.IsTuple (Shared.heap ⟨hp, g, d, tk, os⟩) l1 xs := hl1
    have hL2 : Heap.IsList (Shared.heap ⟨hp.push { cls := .type "tuple_iterator", data := .fields #[.ref l1, .int 0 0] }, g, d, tk, os⟩) l2 ys := Heap.IsList.push hl2 _
    wp_walk using wpAny_pyIter_tuple hL1, wpAny_pyIter_list hL2
    exact ⟨_, rfl, h⟩

section
variable {prog : Program} {w : World} {A : Around} {E : Value → Shared → Prop} {s : Shared}

theorem call_zipM {l1 l2 : Addr} {xs ys : Array Value} {Q : Value → Shared → Prop} (hl1 : s.heap.IsTuple l1 xs) (hl2 : s.heap.IsList l2 ys)
    (h : ∀ h', IsZip h' (s.heap.objs.size + 4) (s.heap.objs.size + 2) (s.heap.objs.size + 3) .none → IsPair h' (s.heap.objs.size + 2) (.ref s.heap.objs.size) (.ref (s.heap.objs.size + 1)) →
      IsPair h' (s.heap.objs.size + 3) .none .none → h'.IsTupleIter s.heap.objs.size l1 0 → h'.IsListIter (s.heap.objs.size + 1) l2 0 → h'.objs.size = s.heap.objs.size + 5 →
      (∀ c o, s.heap.get? c = some o → h'.get? c = some o) → Q (.ref (s.heap.objs.size + 4)) { s with heap := h' }) :
    wpAny (model prog w) A (call (.type "zip") [.ref l1, .ref l2]) Q E s := by
  refine callType_new F.called_zip (by decide) (F.typeCall_zip_2 _ _) (F.newCall_zip_2 _ _) (fun obj => F.args_object_init_3 obj _ _) F.entry_zip_new
    (meets_zipM_new l1 l2 xs ys) ⟨hl1, hl2, ?_⟩
  have z1 : (zipMH1 s.heap l1).objs.size = s.heap.objs.size + 1 := Heap.size_push ..
  have z2 : (zipMH2 s.heap l1 l2).objs.size = s.heap.objs.size + 2 := by rw [Heap.size_push, z1]
  have z3 : (zipMH3 s.heap l1 l2).objs.size = s.heap.objs.size + 3 := by rw [Heap.size_push, z2]
  have z4 : (zipMH4 s.heap l1 l2).objs.size = s.heap.objs.size + 4 := by rw [Heap.size_push, z3]
  have z5 : (zipMH5 s.heap l1 l2).objs.size = s.heap.objs.size + 5 := by rw [Heap.size_push, z4]
  have g5 : (zipMH5 s.heap l1 l2).get? (zipMH4 s.heap l1 l2).objs.size = some _ := Heap.get?_push_size _ rfl
  have g4 : (zipMH5 s.heap l1 l2).get? (zipMH3 s.heap l1 l2).objs.size = some _ := Heap.get?_push_of_some _ (Heap.get?_push_size _ rfl)
  have g3 : (zipMH5 s.heap l1 l2).get? (zipMH2 s.heap l1 l2).objs.size = some _ := Heap.get?_push_of_some _ (Heap.get?_push_of_some _ (Heap.get?_push_size _ rfl))
  have g2 : (zipMH5 s.heap l1 l2).get? (zipMH1 s.heap l1).objs.size = some _ := Heap.get?_push_of_some _ (Heap.get?_push_of_some _ (Heap.get?_push_of_some _ (Heap.get?_push_size _ rfl)))
  have g1 : (zipMH5 s.heap l1 l2).get? s.heap.objs.size = some _ := Heap.get?_push_of_some _ (Heap.get?_push_of_some _ (Heap.get?_push_of_some _ (Heap.get?_push_of_some _ (Heap.get?_push_size _ rfl))))
  show _ ∧ _
  rw [z2, z3, z4] at g5
  rw [z1, z2] at g3
  rw [z3] at g4
  rw [z1] at g2
  rw [z4]
  exact ⟨⟨_, g5, rfl⟩, h _ g5 g3 g4 ⟨_, g1, rfl, rfl⟩ ⟨_, g2, rfl, rfl⟩ z5 fun c o x =>
    Heap.get?_push_of_some _ (Heap.get?_push_of_some _ (Heap.get?_push_of_some _ (Heap.get?_push_of_some _ (Heap.get?_push_of_some _ x))))⟩
end

open PySem.Spec PyProof.Rows L2
/-- the tuple at a and the list at b as they stand at each turn, the items in new pairs -/
def ItzM (K : PySem.W.Frag) (a b : Addr) : It :=
  ⟨fun i H => ∃ (xs ys : List V) (x y : V), SqT K H a xs ∧ SqL K H b ys ∧ xs[i]? = some x ∧ ys[i]? = some y,
    fun i H v H' => ∃ T x y, v = .ref T ∧ H T = none ∧ H' = upd H T (.tup [x, y]) ∧ (∀ xs, SqT K H a xs → xs[i]? = some x) ∧ ∀ ys, SqL K H b ys → ys[i]? = some y,
    fun i H => ∃ xs ys : List V, SqT K H a xs ∧ SqL K H b ys ∧ (xs.length ≤ i ∨ ys.length ≤ i)⟩
theorem turn_zipM {P : Program} {w : World} {K : PySem.W.Frag} {elts : List Expr} {kk : Nat} {tpos : Pos} {a b z TI TO i1 i2 : Addr} (D : ZipApart z TI TO i1 i2 a b) :
    Turn P w K (.Tuple elts kk tpos) (ItzM K a b) [z, TI, TO, i1, i2] z (fun i h => IsZip h z TI TO .none ∧ IsPair h TI (.ref i1) (.ref i2) ∧ (∃ x y, IsPair h TO x y) ∧ h.IsTupleIter i1 a i ∧ h.IsListIter i2 b i) where
  mem := by simp
  obj := fun i h st c hc => by
    obtain ⟨hz, hTI, ⟨x, y, hTO⟩, ⟨o1, e1, _, d1⟩, ⟨o2, e2, _, d2⟩⟩ := st
    have e' : c = z ∨ c = TI ∨ c = TO ∨ c = i1 ∨ c = i2 := by simpa using hc
    rcases e' with q | q | q | q | q
    · rw [q]; exact ⟨_, hz, fun v q => nomatch q⟩
    · rw [q]; exact ⟨_, hTI, fun v q => nomatch q⟩
    · rw [q]; exact ⟨_, hTO, fun v q => nomatch q⟩
    · rw [q]; exact ⟨o1, e1, fun v q => by rw [d1] at q; cases q⟩
    · rw [q]; exact ⟨o2, e2, fun v q => by rw [d2] at q; cases q⟩
  keep := fun i h h' st k => by
    obtain ⟨hz, hTI, ⟨x, y, hTO⟩, h1, h2⟩ := st
    exact ⟨k z (by simp) _ hz, k TI (by simp) _ hTI, ⟨x, y, k TO (by simp) _ hTO⟩, h1.at fun o q => k i1 (by simp) o q, h2.at fun o q => k i2 (by simp) o q⟩
  item := by
    intro X hP hw hK hc i pins s σ H E I hf st hg
    subst hP hw hK
    obtain ⟨hz, hTI, ⟨x0, y0, hTO⟩, h1, h2⟩ := st
    obtain ⟨xs, ys, x, y, hqx, hqy, hx, hy⟩ := hg
    obtain ⟨its, rv, p, _⟩ := I.tuple hqx
    obtain ⟨its2, rv2, p2, _⟩ := I.list hqy
    obtain ⟨u, hu, ru⟩ := rv.get hx
    obtain ⟨u2, hu2, ru2⟩ := rv2.get hy
    have hzl : z < s.heap.objs.size := Heap.lt_size hz
    refine pyNext_zipM_item D hz hTI hTO h1 h2 p p2.isList (x := u) (y := u2) (by simpa using hu) (by simpa using hu2) fun h' z' TO' h1' h2' hT hsz hk => ?_
    refine ⟨_, rfl, wpAny_letOwnedTupleGo_zip (s := { s with heap := h' }) z' fun h'' z'' sb => ?_⟩
    have hT2 : h''.get? s.heap.objs.size = some { cls := .type "tuple", data := .seq #[u, u2] } := (sb.2 _ (Nat.ne_of_gt hzl)).trans hT
    have new : ObjOk X.prog X.w (upd H s.heap.objs.size (.tup [x, y])) h'' s.heap.objs.size (.tup [x, y]) :=
      ⟨by show 2 ≤ sizeLine; decide, [u, u2], .cons ru (.cons ru2 .nil), ⟨_, hT2, rfl, _, rfl⟩⟩
    have I1 : Inv X pins σ (upd H s.heap.objs.size (.tup [x, y])) { s with heap := h'' } :=
      I.turnedNew (t' := s.toks) (ch := [z, TI, TO, i1, i2]) (fun c o hb q => (sb.2 c (fun q' => hb (by simp [q']))).trans (hk c o (fun q' => hb (by simp [q'])) (fun q' => hb (by simp [q'])) (fun q' => hb (by simp [q'])) (fun q' => hb (by simp [q'])) q)) hf (Nat.le_refl _) new
    refine ⟨.ref s.heap.objs.size, _, I1, rfl, ⟨_, x, y, rfl, I.hok.fresh (Nat.le_refl _), rfl, fun l hl => by rw [I.tuple_inj hl hqx]; exact hx, fun l hl => by rw [I.list_inj hl hqy]; exact hy⟩, ⟨z'', ?_, ⟨u, u2, ?_⟩, ?_, ?_⟩, fun c hcm => ?_⟩
    · exact (sb.2 _ D.TIz).trans (hk _ _ D.TIz D.TITO D.TIi1 D.TIi2 hTI)
    · exact (sb.2 _ D.TOz).trans TO'
    · exact h1'.at fun o q => (sb.2 _ D.i1z).trans q
    · exact h2'.at fun o q => (sb.2 _ D.i2z).trans q
    · have hlt : c < s.heap.objs.size := by
        have e' : c = z ∨ c = TI ∨ c = TO ∨ c = i1 ∨ c = i2 := by simpa using hcm
        rcases e' with q | q | q | q | q
        · rw [q]; exact hzl
        · rw [q]; exact Heap.lt_size hTI
        · rw [q]; exact Heap.lt_size hTO
        · rw [q]; obtain ⟨_, e1, _⟩ := h1; exact Heap.lt_size e1
        · rw [q]; obtain ⟨_, e2, _⟩ := h2; exact Heap.lt_size e2
      rw [upd_ne (Nat.ne_of_lt hlt)]
      exact (hf c hcm).1
  done := by
    intro X hP hw hK hc i pins s σ H E I hf st hg
    subst hP hw hK
    obtain ⟨hz, hTI, ⟨x0, y0, hTO⟩, h1, h2⟩ := st
    obtain ⟨xs, ys, hqx, hqy, hend⟩ := hg
    obtain ⟨its, rv, p, _⟩ := I.tuple hqx
    obtain ⟨its2, rv2, p2, _⟩ := I.list hqy
    have l1 := rv.length
    have l2 := rv2.length
    have he : its.toArray[i]? = none ∨ its2.toArray[i]? = none := by
      rcases hend with q | q
      · exact .inl (by simp; omega)
      · exact .inr (by simp; omega)
    exact pyNext_zipM_end (I.ok.hd hc) D hz hTI hTO h1 h2 p p2.isList he fun h' hk => ⟨rfl, I.turnedL (t' := s.toks) (ch := [z, TI, TO, i1, i2]) (fun c o hb q =>
      hk c o (fun q' => hb (by simp [q'])) (fun q' => hb (by simp [q'])) (fun q' => hb (by simp [q'])) (fun q' => hb (by simp [q'])) q) hf⟩
  self := fun A i s Q E st h => wpAny_pyIter_zip st.1 h

def iZipM (K : PySem.W.Frag) (ta : TA) : TI := fun σ H R => ta σ H fun vs H1 => ∃ a b xs ys, vs = [.ref a, .ref b] ∧ SqT K H1 a xs ∧ SqL K H1 b ys ∧ R (ItzM K a b) H1
theorem pi_zipM {X : Cx} {e e2 : Expr} {ta : TA} {p pos tpos : Pos} {elts : List Expr} {kk : Nat} (hg : Gl X "zip") (hm : X.mg "zip" = none) (ha : PA X [e, e2] ta)
    (hs : starEach [e, e2] X.env = (false, eval e X.env) :: starEach [e2] X.env := by rfl) (hpl : (backTo pos (starEach [e2] X.env)).any (·.1) = false := by rfl) :
    PI X (.Tuple elts kk tpos) (.Call (.Name "zip" p) [e, e2] [] pos) (iZipM X.K ta) := by
  refine ⟨fun pins s σ H R I h => ?_⟩
  refine Call_ (ld_blt I hg hm PyProof.Rows.boot_zip (PyProof.Rows.callWith_type1 (thn (ha.run pos pins s σ H _ I h) fun us s1 ⟨vs, H1, I1, r1, q1⟩ => ?_) hs hpl))
  obtain ⟨a, b, xs, ys, ex, q1⟩ := q1
  subst ex
  cases r1 with
  | cons r rr =>
    cases rr with
    | cons r' rr =>
      cases rr
      cases r
      cases r'
      have fresh5 : ∀ c, c ∈ [s1.heap.objs.size + 4, s1.heap.objs.size + 2, s1.heap.objs.size + 3, s1.heap.objs.size, s1.heap.objs.size + 1] → FpOk X pins H1 c := fun c hcm => by
        have e' : c = s1.heap.objs.size + 4 ∨ c = s1.heap.objs.size + 2 ∨ c = s1.heap.objs.size + 3 ∨ c = s1.heap.objs.size ∨ c = s1.heap.objs.size + 1 := by simpa using hcm
        have hle : s1.heap.objs.size ≤ c := by
          rcases e' with z | z | z | z | z
          · rw [z]; exact Nat.le_add_right _ _
          · rw [z]; exact Nat.le_add_right _ _
          · rw [z]; exact Nat.le_add_right _ _
          · rw [z]; exact Nat.le_refl _
          · rw [z]; exact Nat.le_add_right _ _
        exact I1.fpOk hle (I1.hok.fresh hle)
      obtain ⟨hqx, hqy, q⟩ := q1
      obtain ⟨its, rv, p1, _⟩ := I1.tuple hqx
      obtain ⟨its2, rv2, p2, _⟩ := I1.list hqy
      obtain ⟨o1, ho1, _⟩ := id p1
      refine call_zipM (show s1.heap.IsTuple a its.toArray from p1) p2.isList fun h' hz hTI hTO h1 h2 hsz hk => wpAny_pyIter_zip hz ?_
      have I2 : Inv X pins σ H1 { s1 with heap := h' } := I1.kept (t' := s1.toks) hk
      exact ⟨s1.heap.objs.size + 4, [s1.heap.objs.size + 4, s1.heap.objs.size + 2, s1.heap.objs.size + 3, s1.heap.objs.size, s1.heap.objs.size + 1], _, _, H1, rfl, I2, turn_zipM (PySem.W.ktu_apart s1.heap.objs.size a b (Heap.lt_size ho1) p2.lt), ⟨hz, hTI, ⟨_, _, hTO⟩, h1, h2⟩, fresh5, q⟩


section
variable {K : PySem.W.Frag} {a b : Addr} {xs ys : List V} {n : Nat}
theorem walk_zipM (hn : n = min xs.length ys.length) : Walk (ItzM K a b) n (fun H => SqT K H a xs ∧ SqL K H b ys) (YPair (fun i => xs[i]?) (fun i => ys[i]?)) := by
  refine ⟨fun i H hi g => ?_, fun H g => ⟨xs, ys, g.1, g.2, by omega⟩, fun i H x H' hi g y => ?_⟩
  · have h1 : i < xs.length := by omega
    have h2 : i < ys.length := by omega
    exact ⟨xs, ys, xs[i], ys[i], g.1, g.2, List.getElem?_eq_getElem h1, List.getElem?_eq_getElem h2⟩
  · obtain ⟨T, x1, y1, e1, e2, e3, e4, e5⟩ := y
    exact ⟨T, x1, y1, e1, e2, e3, e4 xs g.1, e5 ys g.2⟩
end
end Sz
/-! f"{x:>12}" of a number, " " * n -/
namespace Sz
open PySem PySem.Spec PyProof.Rows L2 PySem.Builtin PySem.Builtin.Float
def f12 : FormatSpec := { align := 62, width := some 12 }
theorem parse12 : parseFormatSpec (Str.ofString ">12").cps.toList "int" 62 = .ok f12 := by kernel_rfl
theorem gives12 (a : Int) (t u : Tok) (hd : a.natAbs.log2 < 1920) : Gives (Builtin.«int.__format__» ⟨[.int a t, .str (Str.ofString ">12") u], []⟩) (.str (intSpecText f12 a)) := by
  intro prog w A R s hq
  obtain ⟨hlen, hq⟩ := hq
  have hne : ((Str.ofString ">12").length == 0) = false := by decide
  have hasc : (((Str.ofString ">12").cps.toList.drop 1).any (· ≥ 128) || ((Str.ofString ">12").cps.getD 0 0 ≥ 128 && !([60, 62, 61, 94] : List Nat).contains ((Str.ofString ">12").cps.getD 1 0))) = false := by decide
  have hp := parse12
  have hty : f12.type.getD (if (Str.ofString ">12").cps.back? == some 0 then 0 else 100) = 100 := by decide
  generalize Str.ofString ">12" = spec at hne hasc hp hty ⊢
  unfold Builtin.«int.__format__»
  simp only [selfAndOne, noKeywords, Int.intOfSelf, asInt?, asStr?, List.isEmpty_nil, if_true, pure_bind, bind_pure, bind_assoc, hne, hasc, Bool.false_eq_true, if_false,
    show (Value.str spec u == Value.none) = false from rfl]
  refine wpAny_bind (wpAny_typeNameOf (T := "str") (typeIs_str _ _ _) (by decide) fun _ => ?_)
  refine wpAny_bind (wpAny_typeNameOfCut_int ?_)
  simp only [hp, hty]
  rw [if_pos (by decide)]
  show wpAny _ _ (do let r ← Builtin.overDigitLimit? a; _) _ _ _
  rw [PySem.overDigitLimit_small hd]
  refine wpAny_bind (wpAny_pure ?_)
  show wpAny _ _ (retStr _) _ _ _
  unfold retStr
  have e : ∀ (y : Str), intSpecText f12 a = y → y.length ≤ sizeLine ∧ R (.ok (.ret (.str y s.toks))) { s with toks := s.toks + 1 } := fun y hy => by
    subst hy
    exact ⟨hlen, hq⟩
  refine wpAny_bind (wpAny_mkStr (wpAny_pure (e _ ?_).2) (e _ ?_).1)
  · unfold intSpecText
    generalize Nat.toDigits 10 a.natAbs = ds
    generalize decide (a < 0) = ng
    rfl
  · unfold intSpecText
    generalize Nat.toDigits 10 a.natAbs = ds
    generalize decide (a < 0) = ng
    rfl
def spaces (k : Nat) : Str := ⟨(List.replicate k 32).toArray⟩
theorem spaces_len (k : Nat) : (spaces k).length = k := by
  show (List.replicate k 32).toArray.size = k
  simp
theorem fold_spaces : ∀ (k : Nat) (acc : Array Nat), (List.replicate k #[32]).foldl (· ++ ·) acc = acc ++ (List.replicate k 32).toArray
  | 0, acc => by simp
  | k + 1, acc => by
    rw [List.replicate_succ, List.foldl_cons, fold_spaces k, List.replicate_succ]
    apply Array.ext'
    simp
/-- the text of a number, at least twelve signs -/
def pad12 (i : Int) : Str := spaces (12 - (toString i : Str).length) ++ (toString i : Str)
theorem pad_eq {i : Int} (h : 0 ≤ i) : intSpecText f12 i = pad12 i := by
  obtain ⟨m, rfl⟩ : ∃ m : Nat, i = (m : Int) := ⟨i.toNat, by omega⟩
  have e : (toString (m : Int) : Str) = ⟨((Nat.toDigits 10 m).map Char.toNat).toArray⟩ := text_ofNat m
  unfold pad12
  rw [e]
  have hd : (Nat.toDigits 10 m) ≠ [] := by
    intro h
    have := Nat.length_repr_pos (n := m)
    unfold Nat.repr at this
    rw [h] at this
    simp at this
  unfold intSpecText
  have en : decide ((m : Int) < 0) = false := decide_eq_false (by omega)
  rw [en]
  have ea : (m : Int).natAbs = m := rfl
  rw [ea]
  have em : ((Nat.toDigits 10 m).map fun c => (if ((100 : Nat) == 88) = true then c.toUpper else c).toNat) = (Nat.toDigits 10 m).map Char.toNat := rfl
  rw [em]
  generalize hds : (Nat.toDigits 10 m).map Char.toNat = ds
  have hne : ds.isEmpty = false := by
    rw [← hds]
    cases h : Nat.toDigits 10 m with
    | nil => exact absurd h hd
    | cons _ _ => rfl
  have el : (Str.mk ds.toArray).length = ds.length := rfl
  unfold intField' spaces
  simp only [f12, hne, el]
  show Str.mk _ = Str.mk _ ++ Str.mk _
  rw [show ∀ a b : Array Nat, Str.mk a ++ Str.mk b = Str.mk (a ++ b) from fun _ _ => rfl]
  congr 1
  apply Array.ext'
  simp
section
variable {X : Cx}
def tFmt12 (te ts : TE) : TE := fun σ H Q => te σ H fun x H1 => ts σ H1 fun y H2 => ∃ i : Int, x = .int i ∧ y = .str (Str.ofString ">12") ∧ 0 ≤ i ∧ i.natAbs.log2 < 1920 ∧ (pad12 i).length ≤ sizeLine ∧ Q (.str (pad12 i)) H2
theorem pe_fmt12 {e spec : Expr} {te ts : TE} {pos : Pos} (he : PE X e te) (hs : PE X spec ts) : PE X (.FormattedValue e (-1) (some spec) pos) (tFmt12 te ts) := by
  refine ⟨fun pins s σ H Q I h => ?_⟩
  refine wpAny_FormattedValue_spec (thn (he.run pins s σ H _ I h) fun v s1 hv => ?_)
  obtain ⟨x, H1, I1, r1, q⟩ := hv
  refine thn (hs.run pins s1 σ H1 _ I1 q) fun u s2 hu => ?_
  obtain ⟨y, H2, I2, r2, i, rfl, rfl, i0, hd, hl, q⟩ := hu
  obtain ⟨t, rfl⟩ := r1
  obtain ⟨t2, rfl⟩ := r2
  refine ⟨_, t2, rfl, ?_⟩
  refine wpAny_formatField_spec (T := "int") (idf := "int.__format__") (x := pad12 i) (by decide) (fun s' => typeIs_int s' i t) PySem.F.slot_int_format PySem.F.entry_int_format (fun a b => PySem.F.args_int_format_2 a b) (fun u => ?_) ⟨.str (pad12 i), H2, (I2.tok _), ⟨_, rfl⟩, q⟩ (by decide) hl
  rw [← pad_eq i0]
  exact gives12 i t u hd
/-- f'..' of two parts or more, within a comprehension -/
def tJn (ts : List TE) : TE := fun σ H Q => tJs ts Str.empty σ H fun out H1 => Q (.str out) H1
theorem pe_joinedN {v1 v2 : Expr} {rest : List Expr} {ts : List TE} {pos : Pos} (h : PJ X (v1 :: v2 :: rest) ts) : PE X (.JoinedStr (v1 :: v2 :: rest) pos) (tJn ts) := pe_joined h
/-- " " * n -/
theorem op_mulS : OpR X (binaryOp .Mult) (fun x y H Q => ∃ n : Int, x = .str " " ∧ y = .int n ∧ -1000 ≤ n ∧ n ≤ 1000 ∧ Q (.str (spaces n.toNat)) H) := by
  intro pins s σ H x y v u Q I rx ry h
  obtain ⟨n, rfl, rfl, n0, n1, q⟩ := h
  obtain ⟨t, rfl⟩ := rx
  obtain ⟨t2, rfl⟩ := ry
  refine PySem.P.mul_str ?_ (fun h1 h2 => ?_) (fun h1 h2 => ?_) ?_
  · have h1 : ¬ n < -(2 ^ 63 : Int) := by omega
    have h2 : ¬ n ≥ 2 ^ 63 := by omega
    rw [decide_eq_false h1, decide_eq_false h2]
    rfl
  · have e : ((" " : Str).length : Int) = 1 := by decide
    rw [e]
    have : n * 1 ≤ 2 ^ 63 - 1 := by omega
    have := Int.le_ediv_of_mul_le (show 0 < n by omega) (a := 1) (b := 2 ^ 63 - 1) (by omega)
    omega
  · have e : (" " : Str).length = 1 := by decide
    rw [e]
    unfold PySem.Builtin.Str.tooLong
    exact decide_eq_false (by rw [sizeLine_eq]; omega)
  · by_cases c : n < 1
    · rw [if_pos c]
      have e : n.toNat = 0 := by omega
      rw [e] at q
      exact ⟨by decide, .str _, H, I.tok _, ⟨_, rfl⟩, q⟩
    · rw [if_neg c]
      by_cases d : n = 1
      · subst d
        rw [if_pos (by decide)]
        exact ⟨.str _, H, I, ⟨_, rfl⟩, q⟩
      · rw [if_neg (by simp [d]; decide)]
        have e : (⟨(List.replicate n.toNat (" " : Str).cps).foldl (· ++ ·) #[]⟩ : Str) = spaces n.toNat := by
          show Str.mk ((List.replicate n.toNat #[32]).foldl (· ++ ·) #[]) = _
          rw [fold_spaces]
          simp [spaces]
        rw [e]
        exact ⟨by rw [spaces_len, sizeLine_eq]; omega, .str _, H, I.tok _, ⟨_, rfl⟩, q⟩
end
end Sz
/-! errors: defs that raise, a try with a tuple of classes, a def that looks at the error that is handled -/
namespace Sz
open PySem PySem.Spec PyProof.Rows L2
section
variable {P : Program} {w : World} {K : PySem.W.Frag} {mg : Str → Option Value} {base : Heap}
/-- a def that may raise -/
theorem Prom.ofX {x : Str} {st : Stmt} {ps N : List Str} {sp : Sp} {k : Nat} (D : DefAt K mg x st) (S : FnScope N ps (defScope st)) (len : ∀ vs H Q E, sp vs H Q E → vs.length = ps.length)
    (hb : ∀ (kV doc pm : Value) (an : Option Addr) (cdv ct : Value) (us : List Value), us.length = ps.length → bindArgs (PySem.W.fnOf x x (defArgs st) (defBody st) (defScope st) .none kV doc pm an cdv ct) ⟨us, []⟩ = pure (ps.zip us))
    (hbody : ∀ (f : Addr) (cdv : Value) (A : Around) (outer : List Env) (s : Shared) (H : Hp) (vs : List V) (Q : VK) (E : XK), Room k (A.deeper (envOfC x (defScope st) s.heap.objs.size f cdv)) → sp vs H Q E →
      ∃ t, PSs (cxOf (L2.CX P w) P w K mg base N x (defScope st) f cdv A outer s H E) (defBody st) t ∧ t { nx := fun _ H' => Q .non H', rt := Q } (start N vs) H) :
    Prom P w K mg base (L2.CX P w) (k + 1) x st ps sp := by
  obtain ⟨f, fd, F, hm⟩ := D
  exact ⟨f, fd, F.ok S len (fun cdv A outer s H vs Q E hr hs => hbody f cdv A outer s H vs Q E hr hs), hm, F, F.bindsN hb⟩
end
/-! ### a def that is handed the error, called in the except suite: p, the error's address and object -/
structure FnP (P : Program) (w : World) (K : PySem.W.Frag) (mg : Str → Option Value) (base : Heap) (k : Nat) (f : Addr) (fd : FuncData) (ps : List Str) (sp : Addr × Obj → Sp) : Prop where
  len : ∀ p vs H Q E, sp p vs H Q E → vs.length = ps.length
  run : ∀ (A : Around) (outer : List Env) (s : Shared) (H : Hp) (args : Args) (us : List Value) (vs : List V) (Q : VK) (E : XK) (p : Addr × Obj), L2H.RoomH k A → A.guards = some [] → L2H.PinOk outer H s p → Env0 P w K mg base A outer s H →
    BindsTo s fd args (ps.zip us) → Vals vs us → sp p vs H Q E → codeAny (model P w) A (.call (.ref f) args) (CR CX0 outer P w H s Q E) s
theorem fnP_of {P : Program} {w : World} {K : PySem.W.Frag} {mg : Str → Option Value} {base : Heap} {k : Nat} {f : Addr} {x q : Str} {pr : Arguments} {bd : List Stmt} {sc : Scope} {dvs : List V} {kws : List (Str × V)} {fd : FuncData} {N ps : List Str} {sp : Addr × Obj → Sp}
    (F : FunD K x q pr bd sc dvs kws f fd) (S : FnScope N ps sc) (len : ∀ p vs H Q E, sp p vs H Q E → vs.length = ps.length)
    (hbody : ∀ (cdv : Value) (A : Around) (outer : List Env) (s : Shared) (H : Hp) (vs : List V) (Q : VK) (E : XK) (p : Addr × Obj), L2H.RoomH k (A.deeper (envOfC q sc s.heap.objs.size f cdv)) → (A.deeper (envOfC q sc s.heap.objs.size f cdv)).guards = some [] → sp p vs H Q E →
      ∃ t, PSs (L2H.cxH CX0 P w K mg base N q sc f cdv A outer s H E p).nox bd t ∧ t { nx := fun _ H' => Q .non H', rt := Q } (start N vs) H) : FnP P w K mg base (k + 1) f fd ps sp := by
  obtain ⟨c1, c2, c3, c4, c5, c6, c7, cdv, c9, c10, rfl, look, code, _, _⟩ := F.ex
  refine ⟨len, fun A outer s H args us vs Q E p room gd pin e0 hbind rel want => ?_⟩
  have old : ∀ b o, base.get? b = some o → s.heap.get? b = some o := fun b o e => (e0.bs b o e).1
  have inK : K.In s.heap := e0.mod.kin.keeps old
  have kinds : ∀ y ∈ ps.zip us, sc.names.lookup y.1 = some .local ∨ (sc.names.lookup y.1 = some .cell ∧ ((cellsFrom (s.heap.objs.size + 1) sc.names []).lookup y.1).isSome = true) := by
    rintro ⟨n, v⟩ hy
    have hm : n ∈ ps := (List.of_mem_zip hy).1
    cases S.par n hm with
    | inl z => exact Or.inl z
    | inr z => exact Or.inr ⟨z, PySem.W.cellsFrom_some _ _ _ (.inl z)⟩
  obtain ⟨t, dt, rt⟩ := hbody cdv A outer s H vs Q E p (room.deeper _) gd want
  have dt := dt.nox
  refine codeAny_call_function room.depth (inK _ _ look) rfl S.co S.gen rfl (PySem.W.codeRec_of inK code) ?_
  refine hbind _ _ _ _ (wpAny_newFunctionEnv_cells S.kind kinds ?_)
  rintro _ rfl s1 ic
  refine ⟨(e0.mod.nolimit.keeps old).keeps ic.toInCall.keep, codeAny_func ?_⟩
  refine wpAny_mono (dt.run [] s1 (start N vs) H _ (L2H.inv_startH S pin e0 (len _ _ _ _ _ want) rel ic) rt) ?_ (fun _ _ z => z)
  intro fl s' hs
  cases fl with
  | ret u => exact let ⟨v, _, H', J, rv, qv⟩ := hs; ⟨v, H', J.os, J.bare, J.base, J.hok, rv, qv⟩
  | next => exact let ⟨_, H', J, qv⟩ := hs; ⟨.non, H', J.os, J.bare, J.base, J.hok, rfl, qv⟩
  | brk => exact let ⟨_, _, _, qv⟩ := hs; False.elim qv
  | cont => exact let ⟨_, _, _, qv⟩ := hs; False.elim qv
/-- the def named x keeps the promise sp of the error at p -/
structure PromP (P : Program) (w : World) (K : PySem.W.Frag) (mg : Str → Option Value) (base : Heap) (k : Nat) (x : Str) (st : Stmt) (ps : List Str) (sp : Addr × Obj → Sp) : Prop where
  ex : ∃ f fd, FnP P w K mg base k f fd ps sp ∧ mg x = some (.ref f) ∧ FunD K x x (defArgs st) (defBody st) (defScope st) [] [] f fd ∧ Binds K fd ps []
theorem PromP.of {P : Program} {w : World} {K : PySem.W.Frag} {mg : Str → Option Value} {base : Heap} {x : Str} {st : Stmt} {ps N : List Str} {sp : Addr × Obj → Sp} {k : Nat} (D : DefAt K mg x st) (S : FnScope N ps (defScope st)) (len : ∀ p vs H Q E, sp p vs H Q E → vs.length = ps.length)
    (hb : ∀ (kV doc pm : Value) (an : Option Addr) (cdv ct : Value) (us : List Value), us.length = ps.length → bindArgs (PySem.W.fnOf x x (defArgs st) (defBody st) (defScope st) .none kV doc pm an cdv ct) ⟨us, []⟩ = pure (ps.zip us))
    (hbody : ∀ (f : Addr) (cdv : Value) (A : Around) (outer : List Env) (s : Shared) (H : Hp) (vs : List V) (Q : VK) (E : XK) (p : Addr × Obj), L2H.RoomH k (A.deeper (envOfC x (defScope st) s.heap.objs.size f cdv)) → (A.deeper (envOfC x (defScope st) s.heap.objs.size f cdv)).guards = some [] → sp p vs H Q E →
      ∃ t, PSs (L2H.cxH CX0 P w K mg base N x (defScope st) f cdv A outer s H E p).nox (defBody st) t ∧ t { nx := fun _ H' => Q .non H', rt := Q } (start N vs) H) :
    PromP P w K mg base (k + 1) x st ps sp := by
  obtain ⟨f, fd, F, hm⟩ := D
  exact ⟨f, fd, fnP_of F S len (fun cdv A outer s H vs Q E p hr hg hs => hbody f cdv A outer s H vs Q E p hr hg hs), hm, F, F.bindsN hb⟩
section
variable {X : Cx} {k : Nat} {x : Str} {st : Stmt} {ps : List Str} {sp : Addr × Obj → Sp} {e : Expr} {es : List Expr} {t : TA} {p pos : Pos} {a : Addr} {oe : Obj} {pn : List (Addr × Obj)}
/-- f(..) in the suite that handles the error at a -/
theorem pe_callE (G : PromP X.prog X.w X.K X.mg X.base k x st ps sp) (gd : X.A.guards = some []) (hr : L2H.RoomH k X.A) (hg : Gl X x) (hs : X.stack = X.env :: X.outer) (ha : PA (X.suite a ((a, oe) :: pn)) (e :: es) t)
    (hdb : (x == ("__debug__" : Str)) = false := by decide) (he : starEach (e :: es) X.env = (false, eval e X.env) :: starEach es X.env := by rfl) (hpl : (backTo pos (starEach es X.env)).any (·.1) = false := by rfl) :
    PE (X.suite a ((a, oe) :: pn)) (.Call (.Name x p) (e :: es) [] pos) (tCall (sp (a, oe)) [] E0 t) := by
  obtain ⟨f, fd, F, hm, D, hb⟩ := G.ex
  constructor
  intro pins s σ H Q I h
  refine wpAny_Call_Name_kw (ld_glob I hg hm (PySem.W.callWith_K (h₀ := X.base) I.ok.mod.kin D.kp (thn (ha.run pos pins s σ H _ I h) ?_) he hpl) hdb)
  rintro us s1 ⟨vs, H1, I1, rel, want⟩
  have pin : L2H.PinOk X.stack H1 s1 (a, oe) := by
    obtain ⟨p1, p2, p3, p4, p5⟩ := I1.pin (a, oe) (List.mem_append_left _ (List.mem_cons_self ..))
    refine ⟨p1, p2, fun z => ?_, p5⟩
    rw [hs] at z
    obtain ⟨en, hen, q⟩ := List.mem_filterMap.mp z
    rcases List.mem_cons.mp hen with z | z
    · subst z
      have nf := I1.ok.stk
      rcases nf with nf | ⟨_, nf⟩
      · have nf : X.stack = X.outer := nf
        rw [hs] at nf
        exact absurd (congrArg List.length nf) (by simp)
      · have nf : X.env.frame = some X.env.locals := nf
        rw [nf] at q
        exact p3 (Option.some.inj q).symm
    · exact p4 (List.mem_filterMap.mpr ⟨en, z, q⟩)
  refine ⟨I1.kIn, wpAny_call (codeAny_mono (F.run (X.A.mark (some (.ref a))) X.stack s1 H1 ⟨us, []⟩ (us ++ []) (vs ++ []) Q E0 (a, oe) ⟨hr.dp, hr.un⟩ gd pin I1.env0 (hb s1 us I1.kIn ?_) (rel.append .nil) want) ?_)⟩
  · rw [← (rel.append Paired.nil).length]
    exact F.len _ _ _ _ _ want
  · intro r s' hq
    cases r with
    | error z => exact False.elim hq
    | ok fl =>
      cases fl with
      | ret u => exact I1.after hq
      | next => exact False.elim hq
      | brk => exact False.elim hq
      | cont => exact False.elim hq
end
/-! ### except clauses with names, by a class or by three of them -/
/-- what the test of a clause does: nothing but new objects, and the word whether the error is of one of these classes -/
def TestOk (X : Cx) (t : Expr) (cs : List Value) : Prop := ∀ (a : Addr) (oe : Obj) (pn pins : List (Addr × Obj)) (s : Shared) (σ : L2.St) (H : Hp) (b : Bool) (Q : Bool → Shared → Prop) (E : Value → Shared → Prop),
  Inv (X.suite a ((a, oe) :: pn)) pins σ H s → PySem.W.exmAny X.K oe.cls cs = some b → (∀ h', (∀ c o, s.heap.get? c = some o → h'.get? c = some o) → Q b { s with heap := h' }) →
  wpAny (model X.prog X.w) (X.A.mark (some (.ref a))) (eval t X.env) (fun c s1 => wpAny (model X.prog X.w) (X.A.mark (some (.ref a))) (excMatches (.ref a) c) Q E s1) E s
theorem exmAny_one {K : PySem.W.Frag} {cls c : Value} {b : Bool} (h : PySem.W.exmAny K cls [c] = some b) : PySem.W.exmOne K cls c = some b := by
  obtain ⟨b1, d1, e1, e2, e3⟩ := PySem.W.exmAny_cons h
  have e2 : some false = some d1 := e2
  cases e2
  rw [e1, e3, Bool.or_false]
section
variable {X : Cx}
theorem looks_cls {a : Addr} {oe : Obj} {pn pins : List (Addr × Obj)} {s : Shared} {σ : L2.St} {H : Hp} (I : Inv (X.suite a ((a, oe) :: pn)) pins σ H s) : PySem.W.Looks (model X.prog X.w) s.heap (typeOf (.ref a)) oe.cls := fun A Q E s' k q =>
  wpAny_typeOf_ref (k _ _ (I.pin (a, oe) (List.mem_append_left _ (List.mem_cons_self ..))).1) q
theorem test_name {x : Str} {c : Value} {np : Pos} (hg : Gl X x) (hm : X.mg x = some c) (hd : (x == ("__debug__" : Str)) = false := by decide) : TestOk X (.Name x np) [c] := fun a oe pn pins s σ H b Q E I hx k => by
  refine ld_glob I hg hm ?_ hd
  exact (PySem.W.exm_one (M := model X.prog X.w) I.kIn (looks_cls I) (exmAny_one hx)).here (k s.heap fun _ _ z => z)
theorem test_tup {x y z : Str} {c1 c2 c3 : Value} {p1 p2 p3 tp : Pos} {e1} (g1 : Gl X x) (g2 : Gl X y) (g3 : Gl X z) (m1 : X.mg x = some c1) (m2 : X.mg y = some c2) (m3 : X.mg z = some c3)
    (d1 : (x == ("__debug__" : Str)) = false := by decide) (d2 : (y == ("__debug__" : Str)) = false := by decide) (d3 : (z == ("__debug__" : Str)) = false := by decide) :
    TestOk X (.Tuple [.Name x p1, .Name y p2, .Name z p3] e1 tp) [c1, c2, c3] := fun a oe pn pins s σ H b Q E I hx k => by
  refine wpAny_Tuple_spliced ?_
  show wpAny _ _ (spliced [(false, eval (.Name x p1) X.env), (false, eval (.Name y p2) X.env), (false, eval (.Name z p3) X.env)]) _ _ _
  refine Calls.spliced_cons (ld_glob I g1 m1 (Calls.spliced_cons (ld_glob I g2 m2 (Calls.spliced_cons (ld_glob I g3 m3 (Calls.spliced_nil ⟨(by show 3 ≤ sizeLine; decide), ?_⟩) d3)) d2)) d1)
  have kk : ∀ c o, s.heap.get? c = some o → (s.heap.push { cls := .type "tuple", data := .seq [c1, c2, c3].toArray }).get? c = some o := fun c o e => Heap.get?_push_of_some _ e
  exact (PySem.W.exm_tup3 (M := model X.prog X.w) (I.kIn.keeps kk) ((looks_cls I).keeps kk) (Heap.get?_push_size _ rfl) hx).here (k _ kk)
end
theorem fly_kept {B h h' : Heap} {l : List Env} {e : Addr} {Z : Obj → Prop} (k : ∀ b o, h.get? b = some o → h'.get? b = some o) (x : HandSPX.FlyingZ B l e Z h) : HandSPX.FlyingZ B l e Z h' := by
  obtain ⟨st, no, fr, oe, vs, T, oT, ts, a1, a2, a3, a4, a5, a6, a7, a8⟩ := x
  exact ⟨fun b o e => k b o (st b o e), no, Heap.FunFrames.of_keeps (fun b o e _ => ⟨o, k b o e, rfl⟩) fr, oe, vs, T, oT, ts, k _ _ a1, a2, a3, a4, a5, a6, k _ _ a7, a8⟩
/-- a clause: the classes, the slot of its name, the reading of its suite -/
structure Clause where
  cs : List Value
  i : Nat
  ts : Addr → Obj → Value → Option Addr → TS
/-- behind the suite the name is gone -/
def Ends.gone (D : Ends) (i : Nat) : Ends := { nx := fun σ H => D.nx (σ.set i none) H, rt := D.rt, bk := fun σ H => D.bk (σ.set i none) H, ct := fun σ H => D.ct (σ.set i none) H }
def wCl (K : PySem.W.Frag) (Wout : WX) (D : Ends) : List Clause → WX
  | [] => Wout
  | c :: r => fun cls d σ H => ∃ b, PySem.W.exmAny K cls c.cs = some b ∧ (b = true → ∀ a oe, Zc cls d oe → (∃ vs, oe.data = .fields vs) → H a = none → c.ts a oe cls d (Ends.gone D c.i) (σ.set c.i (some (.ref a))) H) ∧ (b = false → wCl K Wout D r cls d σ H)
inductive ClOk (X : Cx) : List ExceptHandler → List Clause → Prop
  | nil : ClOk X [] []
  | cons {t : Expr} {n : Str} {i : Nat} {b0 : Stmt} {suite : List Stmt} {pos : Pos} {cs : List Value} {ts : Addr → Obj → Value → Option Addr → TS} {hds : List ExceptHandler} {l : List Clause} (ht : TestOk X t cs) (hi : X.N[i]? = some n) (hl : X.env.kindOf n = some .local)
      (hs : ∀ (a : Addr) (oe : Obj) (cls : Value) (d : Option Addr) (pn : List (Addr × Obj)), Zc cls d oe → (∃ vs, oe.data = .fields vs) → PSs (X.suite a ((a, oe) :: pn)) (b0 :: suite) (ts a oe cls d)) (r : ClOk X hds l) : ClOk X (.ExceptHandler (some t) (some n) (b0 :: suite) pos :: hds) (⟨cs, i, ts⟩ :: l)
section
variable {X : Cx} {body : List Stmt} {h0 : ExceptHandler} {hds : List ExceptHandler} {l : List Clause} {pos : Pos} {tb : WX → TS} {Wout : WX}
/-- the error lies on the ground and is looked at by the clauses -/
theorem clauses_run {pins : List (Addr × Obj)} {σ : L2.St} {H : Hp} {D : Ends} {sI s' : Shared} {B : Heap} {a : Addr} {cls : Value} {d : Option Addr} (hs : X.stack = X.env :: X.outer) (hf : X.env.frame = some X.env.locals) (hN : X.N.Nodup) (tk : Takes X Wout) (J : Inv X pins σ H sI)
    (nb : ∀ b o, sI.heap.get? b = some o → b ∉ frs X.stack → B.get? b = some o) (na : H a = none) (os : s'.os = sI.os) (ag : AllBare s'.gens) {hds : List ExceptHandler} {l : List Clause} (hk : ClOk X hds l) :
    ∀ (h : Heap), HandSPX.FlyingZ B (X.env :: X.outer) a (Zc cls d) h → sI.heap.UpToSlots h → wCl X.K Wout D l cls d σ H → wpAny (model X.prog X.w) X.A (handleBy (.ref a) X.env hds) (SP X pins D) X.xe { s' with heap := h } := by
  have ok := J.ok
  have place : ∀ {h : Heap}, HandSPX.FlyingZ B (X.env :: X.outer) a (Zc cls d) h → a ≠ X.env.locals ∧ a ∉ X.fs := fun {h} fl => by
    obtain ⟨oe, vs, he, hz, hd⟩ := fl.there
    have nfr : a ∉ frs (X.env :: X.outer) := fun hm => by
      obtain ⟨_, o', e', hnf⟩ := fl.2.2.1.mem hm
      rw [he] at e'
      cases e'
      exact hnf _ hd
    exact ⟨fun z => nfr (List.mem_filterMap.mpr ⟨X.env, List.mem_cons_self, by rw [hf, z]⟩), fun hm => by
      obtain ⟨e, he, q⟩ := List.mem_filterMap.mp hm
      exact nfr (List.mem_filterMap.mpr ⟨e, List.mem_cons_of_mem _ he, q⟩)⟩
  induction hk with
  | nil =>
    intro h fl up want
    refine wpAny_handleBy_nil ?_
    obtain ⟨k1, k2, k3, oe, vs, T, oT, us, he, hz, hd, h1, hr⟩ := id fl
    unfold PySem.passOn
    refine wpAny_bind (wpAny_field he hd h1 ?_)
    rw [if_neg (show ¬ ((Value.ref T == Value.none) = true) from by simp)]
    have fin : wpAny (model X.prog X.w) X.A (setFlight (.ref a) X.env.frame) (fun _ s4 => wpAny (model X.prog X.w) X.A (throw (.ref a) : Sem Flow) (SP X pins D) X.xe s4) X.xe { s' with heap := h } := by
      rw [hf]
      exact HandSPX.setFlight_upZ fl fun h4 hh4 up4 => wpAny_throw (tk _ _ ⟨a, B, sI, pins, σ, H, cls, d, rfl, J, nb, up.trans up4, .inr (.inr (by rw [hs]; exact hh4)), na, os, ag, want⟩)
    first
      | exact wpAny_bind (wpAny_pure (wpAny_bind fin))
      | exact wpAny_bind fin
  | @cons t n i b0 suite pos cs ts hds2 l2 ht hi hln hsu r ih =>
    intro h fl up want
    obtain ⟨b, hb, yes, no⟩ := want
    obtain ⟨oe, vs, he, hz, hd⟩ := fl.there
    obtain ⟨nL, nF⟩ := place fl
    have J3 : Inv X pins σ H { s' with heap := h } := J.landed nb fl.1 up os ag
    refine wpAny_handleBy_cons (codeAny_handlers_test (ht a oe (X.pn ++ pins) [] _ σ H b _ _ (J3.suite he hd na nL nF) (by rw [hz.1]; exact hb) fun h5 k5 => ?_)) (by intro q; cases q)
    have fl5 := fly_kept k5 fl
    have up5 := up.trans (Heap.UpToSlots.of_keeps k5)
    cases b with
    | false => exact ih h5 fl5 up5 (no rfl)
    | true =>
      refine codeAny_handlers_suite_as (HandSPX.lands_againZ fl5 fun h6 fl6 up6 => ?_)
      obtain ⟨oe6, vs6, he6, hz6, hd6⟩ := fl6.there
      have J6 : Inv X pins σ H { s' with heap := h6 } := J.landed nb fl6.1 (up5.trans up6) os ag
      refine store_ok (X := X.suite a ((a, oe6) :: (X.pn ++ pins))) (v := .ref a) (J6.suite he6 hd6 na nL nF) hN hi (.inl hln) rfl (fun s7 S7 => ?_) (.inr hln)
      refine wpAny_mono ((hsu a oe6 cls d (X.pn ++ pins) hz6 ⟨_, hd6⟩).run [] s7 _ H _ S7 (yes rfl a oe6 hz6 ⟨_, hd6⟩ na)) (fun f s8 hsp => ?_) (fun _ _ z => False.elim z)
      have leave : ∀ {σ8 : L2.St} {H8 : Hp} {Q : Shared → Prop}, Inv (X.suite a ((a, oe6) :: (X.pn ++ pins))) [] σ8 H8 s8 → (∀ s9, Inv X pins (σ8.set i none) H8 s9 → Q s9) →
          wpAny (model X.prog X.w) X.A (do bindName X.env n .none; unbindBehindTheSuite X.env n pos) (fun _ s9 => Q s9) X.xe s8 := fun {σ8 H8 Q} S8 hq => gone_ok (S8.unsuite ok) hN hi hln hq
      cases f with
      | next => exact let ⟨_, _, S8, q8⟩ := hsp; leave S8 fun _ J9 => ⟨_, _, J9, q8⟩
      | brk => exact let ⟨_, _, S8, q8⟩ := hsp; leave S8 fun _ J9 => ⟨_, _, J9, q8⟩
      | cont => exact let ⟨_, _, S8, q8⟩ := hsp; leave S8 fun _ J9 => ⟨_, _, J9, q8⟩
      | ret u => exact let ⟨_, _, _, S8, r8, q8⟩ := hsp; leave S8 fun _ J9 => ⟨_, _, _, J9, r8, q8⟩
/-- try: body, except T as n: suite, .. -/
theorem ps_tryA (hs : X.stack = X.env :: X.outer) (hf : X.env.frame = some X.env.locals) (hN : X.N.Nodup) (tk : Takes X Wout)
    (hb : ∀ (W : WX) (pn : List (Addr × Obj)) (xe : Value → Shared → Prop), Takes (X.tr pn xe) W → PassesOwn (model X.prog X.w) X.A X.env xe → PSs (X.tr pn xe) body (tb W)) (hh : ClOk X (h0 :: hds) l) :
    PS X (.Try body (h0 :: hds) [] [] pos) (fun D σ H => tb (wCl X.K Wout D l) D σ H) := by
  constructor
  intro pins s σ H D I h
  have ok := I.ok
  have hfr : X.A.frames = some (X.env :: X.outer) := by rw [ok.frames, hs]
  refine wpAny_Try_except (wpAny_mono ((hb (wCl X.K Wout D l) (X.pn ++ pins) (fun e s1 => wpAny (model X.prog X.w) X.A (noteFrame e X.env) (fun _ s2 => wpAny (model X.prog X.w) X.A (setFlight e none) (fun _ s3 =>
    wpAny (model X.prog X.w) X.A (handleBy e X.env (h0 :: hds)) (SP X pins D) X.xe s3) X.xe s2) X.xe s1) (fun u s' xx => ?_) PassesOwn.looking).run [] s σ H D (I.toTry _) h) (fun f s1 hsp => ?_) (fun e s1 he => he))
  · obtain ⟨a, B, sI, pins', σ', H', cls, d, rfl, J', nb, up, sky, na, os, ag, want⟩ := xx
    have sky' : Sky B (X.env :: X.outer) a (Zc cls d) X.env.locals s'.heap := by rw [← hs]; exact sky
    show wpAny (model X.prog X.w) X.A (noteFrame (.ref a) X.env) _ _ _
    exact Sky.land Zc.steady hfr hf sky' fun h3 fl3 up3 => clauses_run hs hf hN tk (J'.ofTry ok) nb na os ag hh h3 fl3 (up.trans up3) want
  · cases f with
    | next => exact let ⟨σ', H', J', q⟩ := hsp; wpAny_execs_nil ⟨σ', H', J'.ofTry ok, q⟩
    | brk => exact let ⟨σ', H', J', q⟩ := hsp; ⟨σ', H', J'.ofTry ok, q⟩
    | cont => exact let ⟨σ', H', J', q⟩ := hsp; ⟨σ', H', J'.ofTry ok, q⟩
    | ret u => exact let ⟨v, σ', H', J', r, q⟩ := hsp; ⟨v, σ', H', J'.ofTry ok, r, q⟩
end
end Sz
/-! own errors with one field, over any built-in base -/
namespace Sz
open PySem PySem.Spec PyProof.Rows L2
/-- what is written of the error class at C: its __init__ at fI sets the field f -/
structure ErrC (K : PySem.W.Frag) (C fI : Addr) (f : Str) : Prop where
  ex : ∃ (B newId initId : String) (bmB : List Value), ExcBaseFacts B newId initId bmB ∧ StoreFacts B bmB "object.__setattr__" "object" ∧ PySem.W.excInitIn K C bmB newId = true ∧ PySem.W.excOver K C bmB = true
  sa : PySem.W.findIn K (.ref C) "__setattr__" = some (some (.builtin "object.__setattr__"))
  tk : PySem.W.takerIn K C f = some none
  hd : PySem.W.hasDictIn K C = true
  exC : PySem.W.subIn K (.ref C) (.type "BaseException") = some true
  tyC : PySem.W.typeIn K (.ref C) = some (.type "type")
  kC : PySem.W.keepIn K (.ref C) = true
  iC : PySem.W.findIn K (.ref C) "__init__" = some (some (.ref fI))
  tI : PySem.W.typeIn K (.ref fI) = some (.type "function")
section
open Builtin Builtin.ObjectAttr
variable {prog : Program} {w : World} {A : Around} {R : Result → Shared → Prop} {hp : Heap} {g : Array GenState} {d : Drawn} {t : Nat} {os : OsState}
/-- the first field of an error -/
theorem err_osa {K : PySem.W.Frag} {C fI : Addr} {f : Str} {tk : Tok} {v : Value} {x : Addr} {fv : Array Value} (T : ErrC K C fI f) (X : K.In hp) (hx : hp.get? x = some { cls := .ref C, data := .fields fv })
    (hq : ∀ h' tk' dx, (∀ b o, b ≠ x → hp.get? b = some o → h'.get? b = some o) → hp.objs.size ≤ dx → dx ≠ x → h'.get? x = some { cls := .ref C, dict := some dx, data := .fields fv } →
      h'.Ns1 dx (fun y => if y = f then some v else none) → R (.ok (.ret .none)) ⟨h', g, d, tk', os⟩) :
    codeAny (model prog w) A (.call (.builtin "object.__setattr__") ⟨[.ref x, .str f tk, v], []⟩) R ⟨hp, g, d, t, os⟩ := by
  obtain ⟨B, newId, initId, bmB, FB, SF, _, ov⟩ := T.ex
  have hxs : x ≠ hp.objs.size := Nat.ne_of_lt (Heap.lt_size hx)
  refine PySem.W.osa_openX (s := ⟨hp, g, d, t, os⟩) (od := none) SF X ⟨hx, rfl, rfl, trivial⟩ ov T.tk fun b => ?_
  show wpAny _ _ (storeInOwnDict (.ref x) (.ref C) (.str f tk) f v b) _ _ _
  obtain ⟨cd, hc, hh⟩ := PySem.W.any_some T.hd
  have hcls : PySem.W.Looks (model prog w) hp (classData C) cd := PySem.W.looks_clsIn X hc
  obtain ⟨nm, bs, mro, ns, qn, hd, sn, sb, ab, col, del⟩ := cd
  dsimp only at hh
  subst hh
  unfold storeInOwnDict ownDictForStores
  repeat (first | with_reducible refine HandSPX.store_in_new ?_ ?_ | with_reducible refine wpAny_loadPart_at hx ?_ | with_reducible refine hcls.at ?_ | wp_step)
  · exact ⟨_, #[], _, (Heap.get?_update_ne _ _ _ _ hxs.symm).trans (Heap.get?_push_at rfl rfl), rfl, fun e he => absurd he (by simp), fun _ => rfl⟩
  · intro h' tk' hn' hs
    have h1 : (hp.push { cls := .type "dict", data := .dict #[] }).get? x = some { cls := .ref C, data := .fields fv } := Heap.get?_push_of_some _ hx
    refine hq h' tk' hp.objs.size (fun b o hb ho => ?_) (Nat.le_refl _) hxs.symm ?_ hn'
    · exact (hs.2 b (Nat.ne_of_lt (Heap.lt_size ho))).trans ((Heap.get?_update_ne _ _ _ _ hb).trans (Heap.get?_push_of_some _ ho))
    · exact (hs.2 x hxs).trans (Heap.get?_update_self _ h1 rfl)
end
section
variable {X : Cx} {pins : List (Addr × Obj)} {σ : L2.St} {H : Hp} {s : Shared} {a C fI dx : Addr} {f : Str} {y : V} {u : Value}
theorem err_first {A : Around} {Q : Unit → Shared → Prop} {E : Value → Shared → Prop} (T : ErrC X.K C fI f) (I : Inv X pins σ H s) (e : H a = some (exo a C none)) (ry : RelV y u)
    (h : ∀ dx s', H dx = none → dx ≠ a → Inv X pins σ (upd (upd H dx (exd dx [(f, y)])) a (exo a C (some dx))) s' → Q () s') : wpAny (model X.prog X.w) A (setAttr (.ref a) f u) Q E s := by
  obtain ⟨t1, ho⟩ := exo_at I.hok e
  obtain ⟨hp, g, dr, t, os⟩ := s
  refine PySem.W.set_plain I.kIn (ox := { cls := .ref C, dict := none, data := .fields #[.ref t1, .none, .none, .none, .bool false, .none] }) (od := none) ⟨ho, rfl, rfl, trivial⟩ T.sa (err_osa T I.kIn ho fun h' tk' dx k dn dne hx hn => ?_)
  have free : H dx = none := I.hok.fresh dn
  have old : ∀ {b : Addr} {o : Obj}, hp.get? b = some o → b ≠ dx := fun z => Nat.ne_of_lt (Nat.lt_of_lt_of_le (Heap.lt_size z) dn)
  have off : ∀ {b : Addr}, H b = none → b ≠ a := fun n z => by
    rw [z, e] at n
    cases n
  have same : ∀ {b : Addr} {o : HO}, H b = some o → exo a C none ≠ o → (upd (upd H dx (exd dx [(f, y)])) a (exo a C (some dx))) b = some o := fun z ne => by
    rw [upd_ne (at_ne e z ne), upd_ne (ne_of_none z free)]
    exact z
  refine h dx _ free dne (I.un (t' := tk') ⟨fun b o z n _ _ => k b o (off n) z, fun b o z n _ _ => ⟨o.slots, k b o (off n) z⟩, fun b o z n _ => by rw [upd_ne (off n), upd_ne (old z)]; exact n, fun b o z _ => ?_, fun b xs z => same z exo_tup, fun b o v z => same z exo_frz, fun b ps z => ⟨#[], by rw [same z exo_tbl]; simp⟩⟩ fun b o z => ?_)
  · by_cases hb : b = a
    · exact ⟨_, by rw [hb]; exact hx⟩
    · exact ⟨o, k b o hb z⟩
  · by_cases hb : b = a
    · subst hb
      rw [upd_same] at z
      cases z
      exact exo_ok hx
    · rw [upd_ne hb] at z
      by_cases hd : b = dx
      · subst hd
        rw [upd_same] at z
        cases z
        exact exd_ok hn (relO_put (fs := []) ry fun _ => True.intro)
      · rw [upd_ne hd] at z
        refine (I.hok b o z).stay (fun c v hc q => k c v ?_ q) (fun c hc => same hc exo_own) (fun c xs hc => same hc exo_tup)
        rcases hc with hc | hc
        · rw [hc]
          exact hb
        · exact at_ne e hc exo_own
/-- self.f = e in an error's __init__ -/
theorem ps_errFld {o v : Expr} {p' pos : Pos} {to te : TE} (hop : PE X o to) (hv : PE X v te) (hs : swapsWith v (some (.Attribute o f p')) pos.line X.env = pure false := by rfl) :
    PS X (.Assign [.Attribute o f p'] v pos) (fun D σ H => te σ H fun y H1 => to σ H1 fun x H2 => ∃ a C fI : Addr, x = .ref a ∧ ErrC X.K C fI f ∧ H2 a = some (exo a C none) ∧ ∀ dx, H2 dx = none → dx ≠ a → D.nx σ (upd (upd H2 dx (exd dx [(f, y)])) a (exo a C (some dx)))) := by
  constructor
  intro pins s σ H D I h
  refine plainObj_wpAny_Assign_Attribute (thn (hv.run pins s σ H _ I h) fun w1 s1 ⟨y, H1, I1, r1, q1⟩ => thn (hop.run pins s1 σ H1 _ I1 q1) fun w2 s2 ⟨x, H2, I2, r2, a, C, fI, ex, T, ea, q⟩ => ?_) hs
  subst ex
  obtain rfl : w2 = Value.ref a := r2
  exact err_first T I2 ea r1 fun dx s' n ne J => ⟨σ, _, J, q dx n ne⟩
end
/-- what __init__ of an error class promises -/
def spErr (K : PySem.W.Frag) (C fI : Addr) (f : Str) : Sp := fun vs H Q _ => ∃ (a : Addr) (v : V), vs = [.ref a, v] ∧ ErrC K C fI f ∧ H a = some (exo a C none) ∧ ∀ dx, H dx = none → dx ≠ a → Q .non (upd (upd H dx (exd dx [(f, v)])) a (exo a C (some dx)))
/-- raise C(e) asks: the field's value, then the wish of the error with its own dict -/
def tErr (C : Addr) (f : Str) (te : TE) : L2.St → Hp → XK → Prop := fun σ H Q => te σ H fun v H1 => ∀ d, H1 d = none → Q (.ref C) (some d) (upd H1 d (.xd [(f, v)]))
section
variable {X : Cx} {x : Str} {C fI : Addr} {f : Str} {e : Expr} {te : TE} {k : Nat} {p pos : Pos} {fd : FuncData} {ps : List Str}
theorem pmk_err (T : ErrC X.K C fI f) (F1 : FnOk X.prog X.w X.K X.mg X.base CX0 k fI fd ps (spErr X.K C fI f)) (hb : Binds X.K fd ps []) (hr : Room (k + 1) X.A) (hg : Gl X x) (hm : X.mg x = some (.ref C)) (he : PE X e te)
    (hdb : (x == ("__debug__" : Str)) = false := by decide) (hst : starEach [e] X.env = (false, eval e X.env) :: starEach [] X.env := by rfl) (hpl : (backTo pos (starEach [] X.env)).any (·.1) = false := by rfl) :
    PMk X (.Call (.Name x p) [e] [] pos) (tErr C f te) := by
  intro pins s σ H Q I h
  obtain ⟨B, newId, initId, bmB, FB, SF, ini, _⟩ := T.ex
  refine wpAny_Call_Name_kw (ld_glob I hg hm ?_ hdb)
  refine PySem.W.callWith_K (h₀ := X.base) I.ok.mod.kin T.kC (thn ((pa_cons he pa_nil hst).run pos pins s σ H (fun vs H1 => match vs with | [v] => ∀ d, H1 d = none → Q (.ref C) (some d) (upd H1 d (.xd [(f, v)])) | _ => False) I h) ?_) hst hpl
  rintro us s1 ⟨vs, H1, I1, r1, q⟩
  match vs, r1, q with
  | [v], r1, q =>
    obtain ⟨uv, rfl, ru⟩ := vals1 r1
    refine ⟨I1.kIn, ?_⟩
    show wpAny _ _ (call (.ref C) [uv]) _ _ _
    obtain ⟨nm, N', qn, bs, bm, hdct, sn, sub, ab, col, dd, k0, k1, k2, k3, k5, hC, hT⟩ := PySem.W.excInit_of I1.kIn ini
    obtain ⟨hp, g, dr, tk, os⟩ := s1
    have hsz : hp.objs.size ≤ hp.objs.size + 1 := Nat.le_succ _
    have hn : H1 (hp.objs.size + 1) = none := I1.hok.fresh hsz
    have kk : ∀ b o, hp.get? b = some o → ((hp.push (PySem.W.kdv_tup [uv])).push (HandSPX.excO C hp.objs.size)).get? b = some o := fun b o z => Heap.get?_push_of_some _ (Heap.get?_push_of_some _ z)
    have hget : ((hp.push (PySem.W.kdv_tup [uv])).push (HandSPX.excO C hp.objs.size)).get? (hp.objs.size + 1) = some (HandSPX.excO C hp.objs.size) := by heap_get
    have I2 : Inv X pins σ (upd H1 (hp.objs.size + 1) (exo (hp.objs.size + 1) C none)) ⟨(hp.push (PySem.W.kdv_tup [uv])).push (HandSPX.excO C hp.objs.size), g, dr, tk, os⟩ := I1.laid (t' := tk) kk hsz (exo_ok hget)
    have r2 : Vals [V.ref (hp.objs.size + 1), v] [Value.ref (hp.objs.size + 1), uv] := .cons rfl (.cons ru .nil)
    have want : spErr X.K C fI f [V.ref (hp.objs.size + 1), v] (upd H1 (hp.objs.size + 1) (exo (hp.objs.size + 1) C none)) (fun z H2 => z = .non ∧ ∃ (d : Addr) (fs : List (Str × V)), H2 (hp.objs.size + 1) = some (exo (hp.objs.size + 1) C (some d)) ∧ H2 d = some (exd d fs) ∧ H1 d = none ∧
        Q (.ref C) (some d) (upd (del H2 (hp.objs.size + 1)) d (.xd fs))) (fun _ _ _ => False) := by
      refine ⟨_, v, rfl, T, upd_same, fun dx hdx ndx => ⟨rfl, dx, [(f, v)], upd_same, ?_, ?_, ?_⟩⟩
      · rw [upd_ne ndx, upd_same]
      · rw [upd_ne ndx] at hdx
        exact hdx
      · rw [upd_ne ndx] at hdx
        have eq : upd (del (upd (upd (upd H1 (hp.objs.size + 1) (exo (hp.objs.size + 1) C none)) dx (exd dx [(f, v)])) (hp.objs.size + 1) (exo (hp.objs.size + 1) C (some dx))) (hp.objs.size + 1)) dx (.xd [(f, v)]) = upd H1 dx (.xd [(f, v)]) := by
          funext b
          by_cases hb : b = dx
          · rw [hb, upd_same, upd_same]
          · rw [upd_ne hb, upd_ne hb]
            by_cases ha : b = hp.objs.size + 1
            · rw [ha, del_same, hn]
            · rw [del_ne ha, upd_ne ha, upd_ne hb, upd_ne ha]
        rw [eq]
        exact q dx hdx
    have hl : [Value.ref (hp.objs.size + 1), uv].length = ps.length := F1.len _ _ _ _ want
    refine wpAny_call (HandSPX.call_own FB hT hC (PySem.W.looks_findIn I1.kIn T.iC) (fun self => PySem.W.bind_fn I1.kIn self T.tI) (by show 1 ≤ sizeLine; decide)
      (codeAny_mono (F1.run _ X.stack _ _ ⟨[Value.ref (hp.objs.size + 1), uv], []⟩ ([Value.ref (hp.objs.size + 1), uv] ++ []) ([V.ref (hp.objs.size + 1), v] ++ []) _ (fun _ _ _ => False) (hr.make C [uv] []) (I2.env0.make C [uv] []) (hb _ [Value.ref (hp.objs.size + 1), uv] I2.kIn hl) (r2.append .nil) want) fun r s' hq => ?_))
    cases r with
    | error er => exact False.elim hq
    | ok fl =>
      cases fl with
      | ret u =>
        obtain ⟨z, H2, os2, bare2, un2, hok2, rv, ez, d, fs, ea, ed, hd1, q2⟩ := hq
        subst ez
        obtain ⟨h2, g2, d2, t2, os'⟩ := s'
        exact ⟨rv, mk_end (raises_own T.exC T.tyC) I1 hsz kk un2 hok2 os2 bare2 ea ed hd1 q2⟩
      | next => exact False.elim hq
      | brk => exact False.elim hq
      | cont => exact False.elim hq
end
end Sz
/-! isinstance and the fields of the error that is pinned -/
namespace Sz
open PySem PySem.Spec PyProof.Rows L2
section
open PySem.W PySem.Calls
variable {prog : Program} {w : World} {A : Around} {E : Value → Shared → Prop} {s : Shared} {K : Frag} {x D : Addr} {ox : Obj} {od : Option Obj}
/-- x.__class__ of an error, with a dict or without -/
theorem err_class {Q : Option Value → Shared → Prop} (T : ExcC K D) (X : K.In s.heap) (I : InstAt s.heap x ox D od) (h : Q (some (.ref D)) { s with toks := s.toks + 1 }) : wpAny (model prog w) A (getAttr? (.ref x) "__class__") Q E s := by
  have isC : (clsIn K D).isSome = true := by obtain ⟨cd, hc, _⟩ := any_some T.hd; rw [hc]; rfl
  have found : findObj K D od "__class__" = some (.bind (.builtin "getset_descriptor.__get__") (.builtin "object.__class__")) := by
    cases od with
    | none => exact findObj_dataN isC T.ha T.hn T.ht
    | some o => exact findObj_data isC T.ha T.hn T.ht
  obtain ⟨hp, g, dr, t, os⟩ := s
  have l0 := I.type (M := model prog w)
  have l1 := looks_findIn (M := model prog w) X T.hg
  have l2 := looks_findIn (M := model prog w) X T.hk
  have l3 := looks_find (M := model prog w) X I found
  have sub : Looks (model prog w) hp (isInstance (.ref x) (.type "BaseException")) true := l0.andThen (looks_subIn X T.hs)
  have n2 : (Value.builtin "BaseException.__getattribute__" == Value.builtin "object.__getattribute__") = false := by decide +kernel
  have n1 : (onTheHeap (Value.ref D) && Value.builtin "BaseException.__getattribute__" == Value.builtin "object.__getattribute__") = false := by rw [n2]; rfl
  unfold getAttr? getAttrBy? getAttrBy
  refine wpAny_bind (wpAny_mkText (wpAny_bind (wpAny_attempt (wpAny_holding (wpAny_bind (l0.at (wpAny_bind (l1.at ?_))))))))
  show wpAny _ _ (if (onTheHeap (Value.ref D) && Value.builtin "BaseException.__getattribute__" == Value.builtin "object.__getattribute__") = true then _ else _) _ _ _
  rw [n1, if_neg Bool.false_ne_true]
  unfold getAttrByItsOwn hookBefore
  refine wpAny_bind ?_
  rw [if_pos (show onTheHeap (Value.ref D) = true from rfl)]
  refine l2.at (wpAny_bind (wpAny_attempt (wpAny_holding ?_)))
  unfold callGetattribute
  rw [show (false && onTheHeap (Value.builtin "BaseException.__getattribute__")) = false from rfl, if_neg Bool.false_ne_true]
  unfold boundAndCalled
  rw [PySem.F.excAttr_ValueError.ga.bind (.ref x)]
  refine wpAny_bind (wpAny_pure ?_)
  show wpAny _ _ (call (.builtin "BaseException.__getattribute__") [.ref x, .str "__class__" t]) _ _ _
  refine wpAny_call (codeAny_call_builtin PySem.F.excAttr_ValueError.ga.plain PySem.F.entry_bexc_ga (@check_slot (model prog w) _ _ ⟨hp, g, dr, t + 1, os⟩ "BaseException.__getattribute__" "BaseException" "__getattribute__" (.ref x) [.str "__class__" t] [] _ (by decide +kernel) (by decide +kernel) sub (PySem.F.args_bexc_ga (.ref x) (.str "__class__" t)) ?_))
  unfold Builtin.«object.__getattribute__»
  refine wpAny_bind (wpAny_of_eq (a := ((Value.ref x : Value), [Value.str "__class__" t])) (by first | rfl | (simp only [slotArgs]; rfl)) ?_)
  refine wpAny_bind (wpAny_pure (wpAny_bind (l0.at (wpAny_bind (l3.at ?_)))))
  show wpAny _ _ (holding [Value.builtin "object.__class__"] (call (.builtin "getset_descriptor.__get__") [.builtin "object.__class__", .ref x, .ref D]) >>= ret) _ _ _
  refine wpAny_bind (wpAny_holding (wpAny_call (class_get (s := ⟨hp, g, dr, t + 1, os⟩) (ox := ox) (od := od) X I T.hm ?_)))
  refine wpAny_pure ?_
  show wpAny _ _ (handedOut (.ref D)) _ _ _
  rw [handedOut_of (v := .ref D) rfl]
  first
    | exact wpAny_pure (wpAny_pure h)
    | exact wpAny_pure h
    | exact wpAny_pure (wpAny_bind (wpAny_pure (wpAny_pure h)))
theorem cls_obj {cd : ClassData} (hc : clsIn K D = some cd) : ∃ c dd sl, K.lookup D = some ⟨c, dd, .cls cd, sl⟩ := by
  unfold clsIn at hc
  split at hc
  · rename_i c dd cd' sl ho
    cases hc
    exact ⟨_, _, _, ho⟩
  · cases hc
theorem kit_err (T : ExcC K D) : KitX K (.ref x) (.ref D) (fun h => ∃ od, InstAt h x ox D od) := by
  obtain ⟨cd, hc, _⟩ := any_some T.hd
  obtain ⟨c, dd, sl, ho⟩ := cls_obj hc
  refine ⟨fun _ _ _ ⟨od, I⟩ => I.type, fun _ _ X _ A' Q' E' s' k q => ?_, fun h tp dd' its n sl' X htp => ?_, fun X ⟨od, I⟩ k => err_class T X I k⟩
  · unfold isType loadHead
    exact wpAny_bind (wpAny_loadPart (k _ _ (X _ _ ho)) (wpAny_pure q))
  · refine Bool.eq_false_iff.mpr fun q => ?_
    have e : D = tp := Value.ref.inj (beq_iff_eq.mp q)
    subst e
    cases (X _ _ ho).symm.trans htp
end
section
variable {X : Cx} {a : Addr} {oe : Obj}
/-- isinstance(e, c), e the pinned error -/
def rIsP (K : PySem.W.Frag) (a : Addr) (oe : Obj) : List V → Hp → VK → Prop := fun xs H Q => ∃ (c : V) (cv : Value) (D : Addr) (b : Bool), xs = [.ref a, c] ∧ (∀ u, RelV c u → u = cv) ∧ oe.cls = .ref D ∧ ExcC K D ∧ (∃ vs, oe.data = .fields vs) ∧ (oe.dict = none ∨ ∃ (d : Addr) (fs : List (Str × V)), oe.dict = some d ∧ H d = some (.xd fs)) ∧ PySem.W.kitOne K (.ref D) cv = some b ∧ Q (.bl b) H
theorem inst_pin {pins : List (Addr × Obj)} {σ : L2.St} {H : Hp} {s : Shared} {D : Addr} (hp : (a, oe) ∈ X.pn) (I : Inv X pins σ H s) (hc : oe.cls = .ref D) (hv : ∃ vs, oe.data = .fields vs) (hd : oe.dict = none ∨ ∃ (d : Addr) (fs : List (Str × V)), oe.dict = some d ∧ H d = some (.xd fs)) :
    ∃ od, PySem.W.InstAt s.heap a oe D od := by
  have hg := (I.pin (a, oe) (List.mem_append_left _ hp)).1
  obtain ⟨vs, hv⟩ := hv
  have nc : PySem.W.notCls oe = true := by unfold PySem.W.notCls; rw [hv] <;> rfl
  rcases hd with hd | ⟨d, fs, hd, he⟩
  · exact ⟨none, hg, hc, nc, by rw [hd]; trivial⟩
  · have hx : ObjOk X.prog X.w H s.heap d (.xd fs) := I.hok d _ he
    obtain ⟨mA, hns, _⟩ := hx
    obtain ⟨od, ho, _⟩ := lookIn_ns hns
    exact ⟨some od, hg, hc, nc, by rw [hd]; exact ho⟩
theorem call_isP (hp : (a, oe) ∈ X.pn) : CallR X (.builtin "isinstance") (rIsP X.K a oe) := by
  intro pins s σ H xs us Q I r h
  obtain ⟨c, cv, D, b, rfl, hcv, hc, T, hv, hd, e, q⟩ := h
  cases r with
  | cons rx rr =>
    cases rr with
    | cons rt rr =>
      cases rr
      cases rx
      cases hcv _ rt
      exact PySem.W.kia_one (kit_err T) I.kIn (inst_pin hp I hc hv hd) e (fun z => nomatch z) fun tk => ⟨.bl b, H, I.kept (t' := tk) fun _ _ z => z, rfl, q⟩
/-- e.f, e the pinned error -/
def tXfP (K : PySem.W.Frag) (a : Addr) (oe : Obj) (f : Str) (te : TE) : TE := fun σ H Q => te σ H fun x H1 => x = .ref a ∧ ∃ (D d : Addr) (fs : List (Str × V)) (v : V), oe.cls = .ref D ∧ oe.dict = some d ∧ (∃ vs, oe.data = .fields vs) ∧ XfC K D ∧ PySem.W.findIn K (.ref D) f = some none ∧ H1 d = some (.xd fs) ∧ fs.lookup f = some v ∧ Q v H1
theorem pe_xfP {e : Expr} {te : TE} {pos : Pos} {n : Str} (hp : (a, oe) ∈ X.pn) (he : PE X e te) (hb : attributeBase e n X.env (eval e X.env) = eval e X.env := by rfl) : PE X (.Attribute e n pos) (tXfP X.K a oe n te) := by
  constructor
  intro pins s σ H Q I h
  refine attr_of hb (thn (he.run pins s σ H _ I h) fun u s1 hh => ?_)
  obtain ⟨x, H1, I1, rx, rfl, D, d, fs, v, hc, hd, ⟨vs, hv⟩, T, hno, ea, l, q⟩ := hh
  obtain rfl : u = Value.ref a := rx
  have hx : ObjOk X.prog X.w H1 s1.heap d (.xd fs) := I1.hok d _ ea
  obtain ⟨mA, hns, hr⟩ := hx
  obtain ⟨od, ho, hl⟩ := lookIn_ns hns
  obtain ⟨u, hu, ru⟩ := RelO.some_of (v := v) (o := mA n) (by rw [← l]; exact hr n)
  have hg := (I1.pin (a, oe) (List.mem_append_left _ hp)).1
  have J : PySem.W.InstAt s1.heap a oe D (some od) := ⟨hg, hc, by unfold PySem.W.notCls; rw [hv] <;> rfl, by rw [hd]; exact ho⟩
  exact HandSPX.exc_get I1.kIn J T.ga T.gg T.exC (PySem.W.findObj_own T.hdC hno rfl (by rw [hl, hu])) (handed_of ru) ⟨v, H1, I1.tok _, ru, q⟩
end
end Sz
/-! what repr shows of things of many kinds; counting among flat values -/
namespace Sz
open PySem PySem.Spec PyProof.Rows L2
/-- repr of v is z -/
inductive Shw (K : PySem.W.Frag) (H : Hp) : V → Str → Prop
  | flat {v : V} {z : Str} (h : flatShown v = some z) : Shw K H v z
  | str {y : Str} (h : (reprText y).length ≤ sizeLine) : Shw K H (.str y) (reprText y)
  | dat {a : Addr} {d : PyData} (h : Dp K H (.ref a) d) (h1 : d.showable = true) (h2 : d.hasDict = false) (h3 : d.depth ≤ 40) (h4 : d.shown.length ≤ sizeLine) : Shw K H (.ref a) d.shown
  | edict {a : Addr} (h : H a = some (.dK [])) : Shw K H (.ref a) "{}"
def rReprW (K : PySem.W.Frag) : List V → Hp → VK → Prop := fun xs H Q => ∃ (v : V) (z : Str), xs = [v] ∧ Shw K H v z ∧ Q (.str z) H
section
variable {X : Cx}
theorem cr_reprW (gd : X.A.guards = some []) (hu : X.A.units + 64 < cLine) : CallR X (.builtin "repr") (rReprW X.K) := by
  intro pins s σ H xs us Q I r h
  obtain ⟨v, z, rfl, hs, q⟩ := h
  cases hs with
  | flat h => exact cr_repr pins s σ H [v] us Q I r ⟨v, z, rfl, h, q⟩
  | str h => exact cr_reprS pins s σ H _ us Q I r ⟨_, rfl, h, q⟩
  | dat h h1 h2 h3 h4 => exact cr_reprD gd hu pins s σ H _ us Q I r ⟨_, _, rfl, h, h1, h2, h3, h4, q⟩
  | @edict a h =>
    obtain ⟨u, rfl, ru⟩ := vals1 r
    cases (show u = Value.ref a from ru)
    obtain ⟨_, ns, vs, kv, hd⟩ : ([] : List (Key × V)).length ≤ sizeLine ∧ (a == sysModules) = false ∧ ∃ vs, KV [] vs ∧ s.heap.DictOf (mixKind X.prog X.w) a vs := I.hok a _ h
    cases kv
    obtain ⟨o, es, ep, e1, e2, e3, _, e4, _⟩ := hd
    have e5 : es.toList = [] := by
      cases q : es.toList with
      | nil => rfl
      | cons x l =>
        rw [q] at e4
        cases e4
    have rd : Reads s.heap (.ref a) (.dict []) [a] := .dict (as := []) (bs := []) e1 e2.1 e3 (by rw [e5]; exact .nil) (by rw [e5]; exact .nil)
    refine repr_of_reads' rd (by decide) (fun _ z => ?_) gd (by show X.A.units + (1 + 1) < cLine; omega) (fun _ _ z => z) (fun h' tok tk kept => ?_) (by decide +kernel)
    · have z2 : sysModules = a := by simpa using z
      rw [z2] at ns
      simp at ns
    · exact ⟨.str "{}", H, I.kept (t' := tk) kept, ⟨_, by rw [show (PyData.dict []).shown = "{}" by decide +kernel]⟩, q⟩
/-- xs.count(y), flat values -/
def rCntF (K : PySem.W.Frag) : V → List V → Hp → VK → Prop := fun x xs H Q => ∃ (p : Addr) (ys : List V) (y : V), x = .ref p ∧ xs = [y] ∧ SqL K H p ys ∧ flatV y = true ∧ ys.all flatV = true ∧ Q (.int (ys.countP fun z => eqV z y : Nat)) H
theorem cnt_eqU {y : V} : ∀ {ys : List V} {us : List Value}, Vals ys us → ys.all flatV = true → us.countP (eqU y) = ys.countP fun z => eqV z y
  | _, _, .nil, _ => rfl
  | z :: ys, u :: us, .cons r t, f => by
    rw [List.all_cons, Bool.and_eq_true] at f
    rw [List.countP_cons, List.countP_cons, cnt_eqU t f.2, eqU_of r f.1]
theorem mt_countF : MtR X "list.count" (rCntF X.K) := by
  intro pins s σ H x xs v us Q I rx rxs h
  obtain ⟨p, ys, y, rfl, rfl, hs, fy, fys, q⟩ := h
  cases rx
  obtain ⟨u, rfl, ru⟩ := rxs.one
  obtain ⟨its, rv, ⟨⟨cls, dd, data, sl⟩, n, ho, hc, hdn, hd⟩, hlen⟩ := I.list hs
  simp only at hc hd
  subst hc hd
  refine call_meets PySem.F.slot_list_count ⟨_, ho, rfl⟩ PySem.F.entry_list_count (PySem.F.args_list_count_2 _ _)
    (SeqAt.list_countAt p its.toArray n dd sl u (eqU y)) ⟨ho, fun z hz => mem_eqAt ru fy rv fys z (by simpa using hz), ?_⟩
  refine ⟨.int (ys.countP fun z => eqV z y : Nat), H, I.tok _, ⟨s.toks, ?_⟩, q⟩
  show Value.int ((its.toArray.toList.countP (eqU y) : Nat) : Int) s.toks = _
  rw [show its.toArray.toList = its from rfl, cnt_eqU rv fys]
end
end Sz
/-! a head that tells of the tables of code objects too, and the law's call with them -/
namespace Sz
open PySem PySem.Spec PyProof.Rows L2
/-! ### the hook -/
structure SaysU (fb : PySem.W.Frag → Bool) (fa : List He.Fa) (fn : List He.DefD) (ts : List He.Tab) (tf : List He.Defn) (w : World) (h : Heap) (K : PySem.W.Frag) : Prop where
  x : SaysX fb fa fn ts w K
  hd : ∀ p ∈ tf, PySem.W.codeHdIn K (He.cT K p).1 (He.cT K p).2 = true
  out : ∀ p ∈ tf, K.lookup (He.cT K p).2 = none
  empty : ∀ p ∈ tf, h.get? (He.cT K p).2 = some { cls := .none, data := .fields #[] }
def obsUG (n : Nat) (fb : PySem.W.Frag → Bool) (fa : List He.Fa) (fn : List He.DefD) (ts : List He.Tab) (tf : List He.Defn) (g : Addr → Option Obj) : Bool × AlX := (He.tabsB g tf (He.frT g (asX g n)), obsX fb fa fn ts (He.frT g (asX g n)))
def hookU (n : Nat) (fb : PySem.W.Frag → Bool) (fa : List He.Fa) (fn : List He.DefD) (ts : List He.Tab) (tf : List He.Defn) : PySem.W.Hook where
  α := Bool × AlX
  obs := fun s => obsUG n fb fa fn ts tf s.heap.get?
  val := fun w => (true, valX fn ts w)
  says := fun w h => ∃ K : PySem.W.Frag, K.In h ∧ SaysU fb fa fn ts tf w h K
  of := fun w s e => by
    have e1 : He.tabsB s.heap.get? tf (He.frT s.heap.get? (asX s.heap.get? n)) = true := congrArg (fun z : Bool × AlX => z.1) e
    have e2 : obsX fb fa fn ts (He.frT s.heap.get? (asX s.heap.get? n)) = valX fn ts w := congrArg (fun z : Bool × AlX => z.2) e
    have key : ∀ p ∈ tf, PySem.W.codeHdIn (He.frT s.heap.get? (asX s.heap.get? n)) (He.cT (He.frT s.heap.get? (asX s.heap.get? n)) p).1 (He.cT (He.frT s.heap.get? (asX s.heap.get? n)) p).2 = true ∧ ∃ o, s.heap.get? (He.cT (He.frT s.heap.get? (asX s.heap.get? n)) p).2 = some o ∧ He.emptyTab o = true := fun p hp => by
      obtain ⟨h3, h4⟩ := He.ba (List.all_eq_true.mp e1 p hp)
      refine ⟨h3, ?_⟩
      cases q : s.heap.get? (He.cT (He.frT s.heap.get? (asX s.heap.get? n)) p).2 with
      | none =>
        rw [q] at h4
        cases h4
      | some o =>
        rw [q] at h4
        exact ⟨o, rfl, h4⟩
    refine ⟨_, He.frT_in, e2, fun p hp => (key p hp).1, fun p hp => ?_, fun p hp => ?_⟩
    · obtain ⟨_, o, q, z⟩ := key p hp
      exact He.frT_none q z
    · obtain ⟨_, o, q, z⟩ := key p hp
      rw [q, He.emptyTab_eq z]
  keeps := fun _ _ _ ⟨K, hK, c⟩ k => ⟨K, PySem.W.Frag.In.keeps hK k, c.x, c.hd, c.out, fun p hp => k _ _ (c.empty p hp)⟩
theorem obsUG_eq {n : Nat} {fb : PySem.W.Frag → Bool} {fa : List He.Fa} {fn : List He.DefD} {ts : List He.Tab} {tf : List He.Defn} {g : Addr → Option Obj} {s : Shared} (h : ∀ a, g a = s.heap.get? a) : obsUG n fb fa fn ts tf g = (hookU n fb fa fn ts tf).obs s := by
  rw [show g = s.heap.get? from funext h]
  rfl
/-! ### the law's call -/
section
variable {P : Program} {w : World} {K : PySem.W.Frag} {mg mb : Str → Option Value} {k : Nat} {fa a : Addr} {fd : FuncData} {x : Str} {sp : Sp} {st : Shared} {vs : List Value} {ns : List Int} {cs : List (Addr × Addr)}
/-- the script and the tables -/
def scriptHpT (K : PySem.W.Frag) (a : Addr) (vs : List Value) (ns : List Int) (cs : List (Addr × Addr)) : Hp := fun b => if b ∈ cs.map (·.2) then some (.tbl #[]) else scriptHp K a vs ns b
theorem law_callGT (KX : K.In st.heap) (gl : st.heap.Ns mainGlobals mg) (bl : st.heap.Ns builtinsNs mb) (bb : ∀ y : Str, y ≠ "__name__" → mb y = bootBuiltins y) (nl : st.heap.NoLimit) (gn : st.gens = #[])
    (hT : ∀ p ∈ cs, st.heap.get? p.2 = some { cls := .none, data := .fields #[] }) (nT : ∀ p ∈ cs, K.lookup p.2 = none) (C : ∀ p ∈ cs, PySem.W.CodeHd st.heap p.1 p.2)
    (hbm : ∃ (bm : Addr) (ob : Obj), mg "__builtins__" = some (.ref bm) ∧ bm ≠ builtinsNs ∧ st.heap.get? bm = some ob ∧ ob.cls = .type "module" ∧ ob.dict = some builtinsNs ∧ ob.data = .plain)
    (ha : st.heap.get? a = some { cls := .type "list", data := .seq vs.toArray }) (hi : IntsAre vs ns) (hl : ns.length ≤ sizeLine) (room : Room k callerA)
    (F : ∀ base : Heap, K.In base → base.Ns mainGlobals mg → (∀ p ∈ cs, LamX.TabB base mg p.1 p.2) → FnG P w K mg base k fa fd [x] sp) (bind1 : ∀ (s : Shared) (u : Value), BindsTo s fd ⟨[u], []⟩ [(x, u)])
    (want : ∀ H : Hp, (∀ p ∈ cs, H p.2 = some (.tbl #[])) → SqL K H a (ns.map V.int) → sp [.ref a] H (fun v _ => v = .bl true) fun _ _ _ => False) :
    codeAny (model P w) callerA (.call (.ref fa) ⟨[.ref a], []⟩) (fun r s' => r = .ok (.ret (.bool true)) ∧ OldK st.heap s'.heap ∧ s'.os = st.os ∧ AllBare s'.gens) st := by
  have rel : Vals (ns.map V.int) vs := vals_ints hi
  have len : (ns.map V.int).length ≤ sizeLine := by rw [List.length_map]; exact hl
  generalize hH : scriptHpT K a vs ns cs = H
  have isT : ∀ b ∈ cs.map (·.2), st.heap.get? b = some { cls := .none, data := .fields #[] } := fun b hb => by
    obtain ⟨p, hp, e⟩ := List.mem_map.mp hb
    rw [← e]
    exact hT p hp
  have atT : ∀ p ∈ cs, H p.2 = some (.tbl #[]) := fun p hp => by
    rw [← hH]
    exact if_pos (List.mem_map.mpr ⟨p, hp, rfl⟩)
  have aT : a ∉ cs.map (·.2) := fun z => by
    have q := (isT a z).symm.trans ha
    cases q
  have sm : ∀ {b u}, H b = some u → (b ∈ cs.map (·.2) ∧ u = .tbl #[]) ∨ (b ∉ cs.map (·.2) ∧ b = a ∧ K.lookup a = none ∧ u = .frz { cls := .type "list", data := .seq vs.toArray } (.lst (ns.map V.int))) := fun {b u} e => by
    rw [← hH] at e
    by_cases hb : b ∈ cs.map (·.2)
    · exact .inl ⟨hb, (Option.some.inj ((if_pos hb).symm.trans e)).symm⟩
    · exact .inr ⟨hb, scriptHp_some ((if_neg hb).symm.trans e)⟩
  have ok : HOk P w H st.heap := fun b u e => by
    rcases sm e with ⟨hb, rfl⟩ | ⟨_, rfl, _, rfl⟩
    · exact isT b hb
    · exact ⟨ha, len, vs, _, rel, ha⟩
  have sq : SqL K H a (ns.map V.int) := by
    cases lk : K.lookup a with
    | none => exact Or.inl (Or.inr ⟨_, by rw [← hH]; exact (if_neg aT).trans (if_pos ⟨rfl, lk⟩)⟩)
    | some o =>
      have e := (KX a o lk).symm.trans ha
      cases e
      exact Or.inr ⟨_, vs.toArray, _, lk, rfl, rfl, rfl, by rw [List.size_toArray, ← rel.length]; exact len, by simpa using rel⟩
  have hid : ∀ {b o}, st.heap.get? b = some o → H b = none → (hidT st.heap H).get? b = some o := fun e n => hidT_get e n
  -- what is neither a list nor an empty record is not tracked
  have free : ∀ {b : Addr} {o : Obj}, st.heap.get? b = some o → (∀ vs n, o.data ≠ .seq vs n) → o.data ≠ .fields #[] → H b = none := fun {b o} e h1 h2 => by
    cases q : H b with
    | none => rfl
    | some u =>
      rcases sm q with ⟨hb, _⟩ | ⟨_, rfl, _, _⟩
      · cases (isT b hb).symm.trans e
        exact absurd rfl h2
      · cases ha.symm.trans e
        exact absurd rfl (h1 _ _)
  have freeN : ∀ {b : Addr} {m}, st.heap.Ns b m → H b = none := fun {b m} hn => by
    obtain ⟨o, es, ep, e1, e2, _⟩ := hn
    exact free e1 (fun _ _ z => by rw [e2] at z; cases z) (fun z => by rw [e2] at z; cases z)
  have ns1 : ∀ {b : Addr} {m}, st.heap.Ns b m → (hidT st.heap H).Ns b m := fun {b m} hn => by
    have fr := freeN hn
    obtain ⟨o, es, ep, e1, e2⟩ := hn
    exact ⟨o, es, ep, hid e1 fr, e2⟩
  have inB : K.In (hidT st.heap H) := fun b o e => hid (KX b o e) (by
    cases z : H b with
    | none => rfl
    | some u =>
      rcases sm z with ⟨hb, _⟩ | ⟨_, rfl, z2, _⟩
      · obtain ⟨p, hp, ep⟩ := List.mem_map.mp hb
        rw [← ep, nT p hp] at e
        cases e
      · rw [z2] at e
        cases e)
  have md : Mod K mg (hidT st.heap H) := ⟨inB, ns1 gl, ⟨mb, ns1 bl, bb⟩, let ⟨mc, c1, c2⟩ := nl; ⟨mc, ns1 c1, c2⟩⟩
  have TB : ∀ p ∈ cs, LamX.TabB (hidT st.heap H) mg p.1 p.2 := fun p hp => by
    refine ⟨?_, ?_, fun z => ?_⟩
    · obtain ⟨o, us, file, tf, flags, tg, inF, text, tt, e1, r1, r2, r3, r⟩ := C p hp
      exact ⟨o, us, file, tf, flags, tg, inF, text, tt, hid e1 (free e1 (fun _ _ z => by rw [r2] at z; cases z) (fun z => by rw [r2] at z; cases z; simp at r3)), r1, r2, r3, r⟩
    · obtain ⟨bm, ob, b1, b2, b3, b4, b5, b6⟩ := hbm
      refine ⟨bm, ob, b1, b2, fun q => ?_, fun q => ?_, hid b3 (free b3 (fun _ _ z => by rw [b6] at z; cases z) (fun z => by rw [b6] at z; cases z)), b4, b5, b6⟩
      · obtain ⟨o, es, ep, e, hd, _⟩ := gl
        rw [q, e] at b3
        cases b3
        rw [hd] at b6
        cases b6
      · rw [q, hT p hp] at b3
        cases b3
        cases b6
    · obtain ⟨o, es, ep, e, hd, _⟩ := gl
      rw [z, hT p hp] at e
      cases e
      cases hd
  have env : Env0 P w K mg (hidT st.heap H) callerA [] st H := ⟨rfl, md, fun _ _ e => of_hidT e, Nat.le_of_eq (hidT_size _ _), trivial, fun b z => absurd (show b ∈ ([] : List Addr) from z) (by simp), ok, .of_eq gn⟩
  refine codeAny_mono ((F _ inB (ns1 gl) TB).run callerA [] st H ⟨[.ref a], []⟩ [.ref a] [.ref a] _ _ room rfl env (bind1 st (.ref a)) (.cons rfl .nil) (want H atT sq)) fun r s' h => ?_
  cases r with
  | error z => exact False.elim h
  | ok fl =>
    cases fl with
    | next => exact False.elim h
    | brk => exact False.elim h
    | cont => exact False.elim h
    | ret u =>
      obtain ⟨v, H', os, bare, un, ok', ru, qv⟩ := h
      cases (show v = .bl true from qv)
      cases (show u = Value.bool true from ru)
      have old : ∀ b o, b ∉ cs.map (·.2) → st.heap.get? b = some o → s'.heap.get? b = some o := fun b o nb e => by
        cases z : H b with
        | none => exact un.keep b o e z (by intro y; exact absurd (show b ∈ ([] : List Addr) from y) (by simp)) (by simp)
        | some t =>
          rcases sm z with ⟨hb, _⟩ | ⟨_, rfl, _, rfl⟩
          · exact absurd hb nb
          · have e2 := (ok' _ _ (un.frzs _ _ _ z)).1
            cases ha.symm.trans e
            exact e2
      have grown : ∀ p ∈ cs, ∃ more : Array Value, s'.heap.get? p.2 = some { cls := .none, data := .fields more } := fun p hp => by
        obtain ⟨more, z⟩ := un.tbls p.2 #[] (atT p hp)
        exact ⟨_, ok' p.2 _ z⟩
      refine ⟨rfl, ⟨fun b o e => ?_, fun b o e => ?_⟩, os, bare⟩
      · by_cases hb : b ∈ cs.map (·.2)
        · obtain ⟨p, hp, rfl⟩ := List.mem_map.mp hb
          obtain ⟨more, hm⟩ := grown p hp
          cases (hT p hp).symm.trans e
          exact .inr (.inl ⟨((C p hp).tab (hT p hp)).isCodeTable, rfl, #[], more, rfl, by rw [Array.empty_append]; exact hm⟩)
        · exact .inl (old b o hb e)
      · by_cases hb : b ∈ cs.map (·.2)
        · obtain ⟨p, hp, rfl⟩ := List.mem_map.mp hb
          obtain ⟨more, hm⟩ := grown p hp
          exact ⟨_, hm⟩
        · exact ⟨o, old b o hb e⟩
end
/-- a law whose def is a PromG, with tables -/
theorem walk_ofGT {l : PySem.W.OpenLaw} {n k : Nat} {q : Program} {loose : List Str} {XP : (Str → Option Value) → Heap → Prop} {YP : World → Heap → Prop} {d : DefRec} {x : Str}
    (hn : l.most = some n) (hn2 : n ≤ sizeLine) (hdf : d.params.defaults = []) (room : Room k callerA)
    (F : ∀ (w : World) (mg : Str → Option Value) (fa : Addr) (h : Heap), YP w h → h.Ns mainGlobals mg → mg d.name = some (.ref fa) →
      ∃ (K : PySem.W.Frag) (fd : FuncData) (sp : Sp) (cs : List (Addr × Addr)), K.In h ∧ (∀ p ∈ cs, h.get? p.2 = some { cls := .none, data := .fields #[] }) ∧ (∀ p ∈ cs, K.lookup p.2 = none) ∧ (∀ p ∈ cs, PySem.W.CodeHd h p.1 p.2) ∧ (∀ (s : Shared) (u : Value), BindsTo s fd ⟨[u], []⟩ [(x, u)]) ∧
        (∀ (H : Hp) (a : Addr) (ns : List Int), ns.length ≤ n → (∀ z ∈ ns, Builtin.Int.intBits z ≤ 1048576) → (∀ p ∈ cs, H p.2 = some (.tbl #[])) → SqL K H a (ns.map V.int) → sp [.ref a] H (fun v _ => v = .bl true) fun _ _ _ => False) ∧
        ∀ base : Heap, K.In base → base.Ns mainGlobals mg → (∀ p ∈ cs, LamX.TabB base mg p.1 p.2) → FnG l.prog w K mg base k fa fd [x] sp) :
    PySem.W.WalkO q loose XP YP l.row.toRowW d [] (fun f vs => PySem.call f vs) := by
  refine Att.attach_callB hn hdf fun w sA sB mg mb fa o pm cd doc a vs ns G Y ho hd hcd hmg hobj hints hlen hbits hg => ?_
  obtain ⟨K, fd, sp, cs, KX, hT, nT, C, b1, want, hF⟩ := F w mg fa _ Y G.T.g hmg
  exact law_callGT KX G.T.g G.T.b G.T.builtins G.T.nolimit hg hT nT C G.T.bmain hobj hints (Nat.le_trans hlen hn2) room hF b1 (fun H hH hS => want H a ns hlen hbits hH hS)
end Sz
/-! a lambda handed to a def that catches what it raises -/
namespace Sz
open PySem PySem.Spec PyProof.Rows L2
theorem takes_len {X : Cx} {W : WX} (t : Takes X W) : Takes X (fun c d σ H => σ.length = X.N.length → W c d σ H) := fun u s' ⟨a, B, sI, pins, σ, H, cls, d, e, I, nb, up, sky, na, os, ag, w⟩ =>
  t u s' ⟨a, B, sI, pins, σ, H, cls, d, e, I, nb, up, sky, na, os, ag, w I.len⟩
/-- what is wished for may be had by something stronger -/
def tWeak (t : TE) : TE := fun σ H Q => ∃ K : VK, (∀ v H', K v H' → Q v H') ∧ t σ H K
theorem pe_weak {X : Cx} {e : Expr} {t : TE} (h : PE X e t) : PE X e (tWeak t) := ⟨fun pins s σ H Q I ⟨K, hK, ht⟩ => wpAny_mono (h.run pins s σ H K I ht) (fun _ _ ⟨v, H', J, r, q⟩ => ⟨v, H', J, r, hK v H' q⟩) (fun _ _ z => z)⟩
/-- the def that calls what it got, whatever its address -/
def Gives (X : Cx) (Ng : List Str) (x : Str) (st : Stmt) (a : Str) (TT : (XK → Hp → VK → Prop) → Hp → VK → Prop) : Prop := ∀ (g : Addr) (cdg : Value), LamX.GivesTo X Ng x (defScope st) g cdg (defBody st) a (X.env.qual ++ "<lambda>") TT
section
variable {X : Cx}
/-- x(lambda: body) -/
theorem pe_lamP {T : List (Addr × Str)} {TT : (XK → Hp → VK → Prop) → Hp → VK → Prop} {x a : Str} {st : Stmt} {c P : Addr} {k : Nat} {Ng : List Str} {params : Arguments} {body : Expr} {scope : Scope} {t : XK → TE} {p lpos pos : Pos} (D : DefAt X.K X.mg x st) (hg : Gl X x) (Sg : FnScope Ng [a] (defScope st))
    (hb : ∀ (kV doc pm : Value) (an : Option Addr) (cdv ct : Value) (us : List Value), us.length = 1 → bindArgs (PySem.W.fnOf x x (defArgs st) (defBody st) (defScope st) .none kV doc pm an cdv ct) ⟨us, []⟩ = pure ([a].zip us))
    (hNg : Ng[0]? = some a) (hva : Vis (defScope st) a) (hG : Gives X Ng x st a TT) (TB : LamX.TabB X.base X.mg c P) (hcode : X.env.code = .ref c) (hmT : (P, X.env.qual ++ "<lambda>") ∈ T) (hu : ∀ p ∈ T, p.1 = P → p.2 = X.env.qual ++ "<lambda>") (hr : Room (k + 2) X.A)
    (L : LamX.LamS X.env.scope scope)
    (hbody : ∀ (A : Around) (outer : List Env) (s : Shared) (H : Hp) (E : XK) (f c' : Addr), Room k (A.deeper (LamX.lamEnv X scope s.heap.objs.size f c')) → PE (LamX.lamCx X A outer s H E scope f c') body (t E))
    (hdef : defaultsOf params X.env = ([], []) := by rfl)
    (hbind : ∀ (q : Str) (cl : List (Str × Addr)) (pm cv ctv : Value), bindArgs (PySem.W.kla_fn "<lambda>" q params body scope cl pm cv ctv) ⟨[], []⟩ = pure [] := by intros; rfl)
    (hdb : (x == ("__debug__" : Str)) = false := by decide) (hd : (a == ("__debug__" : Str)) = false := by decide) (hcd : (a == ("__classdict__" : Str)) = false := by decide) :
    PE X (.Call (.Name x p) [.Lambda params body scope lpos] [] pos) (LamX.tLam T TT t) := by
  obtain ⟨g, fd, F, hm⟩ := D
  have kp := F.kp
  have bs := F.bindsN (ps := [a]) hb
  obtain ⟨oc, od, dV, kV, doc, pm, an, cdv, ct, osl, rfl, lk, hcd', _, _⟩ := F.ex
  exact LamX.pe_lamcall hg hm kp lk hcd' bs Sg hNg hva (hG g cdv) TB hcode hmT hu hr L hdef hbind hbody hdb hd hcd
end
/-- try: t = a() / except (A, B, C) as e: return h(e) / return ("told", t) -/
def TCaught (K : PySem.W.Frag) (cs : List Value) (sp : Addr × Obj → Sp) : (XK → Hp → VK → Prop) → Hp → VK → Prop := fun tl H Q =>
  tl (fun cls d H' => PySem.W.exmAny K cls cs = some true ∧ ∀ a oe, Zc cls d oe → (∃ vs, oe.data = .fields vs) → H' a = none → sp (a, oe) [.ref a] H' Q E0) H (fun v H' => ∀ t, H' t = none → Q (.ref t) (upd H' t (.tup [.str "told", v])))
theorem caught_gives {X : Cx} {x a t e h : Str} {st sth : Stmt} {A1 A2 A3 : Str} {c1 c2 c3 : Value} {k : Nat} {ps : List Str} {sp : Addr × Obj → Sp} {j : Nat} {p1 p2 p3 p4 p5 p6 p7 p8 p9 p10 p11 p12 p13 p14 p15 p16 p17 p18 : Pos} {x1 x2}
    (hN : [a, t, e].Nodup) (hbd : defBody st = [.Try [.Assign [.Name t p1] (.Call (.Name a p2) [] [] p3) p4] [.ExceptHandler (some (.Tuple [.Name A1 p5, .Name A2 p6, .Name A3 p7] x1 p8)) (some e) [.Return (some (.Call (.Name h p9) [.Name e p10] [] p11)) p12] p13] [] [] p14,
      .Return (some (.Tuple [.Constant (.str "told") j p15, .Name t p16] x2 p17)) p18])
    (ka : (defScope st).names.lookup a = some .local) (kt : (defScope st).names.lookup t = some .local) (ke : (defScope st).names.lookup e = some .local) (g1 : (defScope st).names.lookup A1 = some .globalImplicit) (g2 : (defScope st).names.lookup A2 = some .globalImplicit) (g3 : (defScope st).names.lookup A3 = some .globalImplicit)
    (gh : (defScope st).names.lookup h = some .globalImplicit) (m1 : X.mg A1 = some c1) (m2 : X.mg A2 = some c2) (m3 : X.mg A3 = some c3) (G : PromP X.prog X.w X.K X.mg X.base k h sth ps sp) (gd : X.A.guards = some []) (hr : Room (k + 1) X.A)
    (d1 : (A1 == ("__debug__" : Str)) = false := by decide) (d2 : (A2 == ("__debug__" : Str)) = false := by decide) (d3 : (A3 == ("__debug__" : Str)) = false := by decide) (d4 : (h == ("__debug__" : Str)) = false := by decide)
    (d5 : (e == ("__debug__" : Str)) = false := by decide) (d6 : (e == ("__classdict__" : Str)) = false := by decide) (d7 : (t == ("__debug__" : Str)) = false := by decide) (d8 : (t == ("__classdict__" : Str)) = false := by decide) :
    Gives X [a, t, e] x st a (TCaught X.K [c1, c2, c3] sp) := by
  intro g cdg f c' s H Q tl act hc hq
  rw [hbd]
  refine ⟨_, pss_cons (ps_tryA (X := (cxOf C8.CX0 X.prog X.w X.K X.mg X.base [a, t, e] x (defScope st) g cdg X.A X.stack s H C8.E0).nox) (Wout := fun _ _ _ _ => False)
    (tb := fun W D σ H => ∃ Ech : XK, (∀ cls d σ' H', Ech cls d H' → σ'.length = 3 → W cls d σ' H') ∧ σ[0]? = some (some (.ref f)) ∧ H c' = some (LamX.CodeO c' (X.env.qual ++ "<lambda>")) ∧ ∃ K : VK, (∀ v H', K v H' → D.nx (σ.set 1 (some v)) H') ∧ tl Ech H K)
    rfl rfl hN L2.takes0 (fun W pn xe tk _ => ?_)
    (ClOk.cons (i := 2) (test_tup g1 g2 g3 m1 m2 m3 d1 d2 d3) rfl ke (fun a' oe cls d pn _ _ => pss_one (ps_ret (pe_callE G gd ⟨?_, ?_⟩ gh rfl (pa_cons (pe_var (i := 2) rfl (.inl ke) d5 d6) pa_nil) d4))) .nil))
    (pss_one (ps_ret (pe_tup (pa_cons pe_str (pa_cons (pe_var (i := 1) rfl (.inl kt) d7 d8) pa_nil))))), ?_⟩
  · constructor
    intro pins s' σ H' D I ⟨Ech, hW, h1, h2, K, hK, h3⟩
    have hp := act _ pn xe Ech p2 p3 (takes_len tk) (fun cls d σ' H' z hl => hW cls d σ' H' z hl)
    exact (pss_one (ps_set (i := 1) (pos := p4) hN rfl (.inl kt) (pe_weak hp))).run pins s' σ H' D I ⟨K, hK, h1, h2, h3⟩
  · exact (hr.deeper _).dp
  · exact (hr.deeper _).un
  · refine ⟨_, fun cls d σ' H' z hl => ?_, rfl, hc, _, fun v H' z => ?_, hq⟩
    rotate_left
    · exact ⟨v, rfl, by show 2 ≤ sizeLine; decide, z⟩
    obtain ⟨z1, z2⟩ := z
    refine ⟨true, z1, fun _ a' oe hz hv na => ?_, fun z => Bool.noConfusion z⟩
    refine ⟨.ref a', ?_, z2 a' oe hz hv na⟩
    show (σ'.set 2 (some (.ref a')))[2]? = _
    rw [List.getElem?_set_self (by omega)]
/-- what a callee lets out of the lambda's body -/
theorem LamX_pass {X : Cx} {A : Around} {outer : List Env} {s : Shared} {H : Hp} {E : XK} {scope : Scope} {f c' : Addr} : Passes (L2.CX (LamX.lamCx X A outer s H E scope f c').prog (LamX.lamCx X A outer s H E scope f c').w) (LamX.lamCx X A outer s H E scope f c') E := passes_call (takes_of rfl rfl rfl rfl) (fun _ _ _ _ h => h)
theorem gl_lam {X : Cx} {A : Around} {outer : List Env} {s : Shared} {H : Hp} {E : XK} {scope : Scope} {f c' : Addr} {x : Str} (h : scope.names.lookup x = some .globalImplicit) : Gl (LamX.lamCx X A outer s H E scope f c') x := h
/-- a def of the text whose code object is known by its name -/
def DefC (K : PySem.W.Frag) (mg : Str → Option Value) (x : Str) (st : Stmt) : Prop := ∃ fd, FunD K x x (defArgs st) (defBody st) (defScope st) [] [] (He.fAd K (x, none)) fd ∧ mg x = some (.ref (He.fAd K (x, none)))
theorem PromG.ofT {P : Program} {w : World} {K : PySem.W.Frag} {mg : Str → Option Value} {base : Heap} {x : Str} {st : Stmt} {ps N : List Str} {sp : Sp} {k : Nat} (D : DefC K mg x st) (S : FnScope N ps (defScope st)) (len : ∀ vs H Q E, sp vs H Q E → vs.length = ps.length)
    (hb : ∀ (kV doc pm : Value) (an : Option Addr) (cdv ct : Value) (us : List Value), us.length = ps.length → bindArgs (PySem.W.fnOf x x (defArgs st) (defBody st) (defScope st) .none kV doc pm an cdv ct) ⟨us, []⟩ = pure (ps.zip us))
    (hbody : ∀ (f : Addr) (A : Around) (outer : List Env) (s : Shared) (H : Hp) (vs : List V) (Q : VK) (E : XK), Room k (A.deeper (envOfC x (defScope st) s.heap.objs.size f (.ref (He.codeOf K (x, none))))) → (A.deeper (envOfC x (defScope st) s.heap.objs.size f (.ref (He.codeOf K (x, none))))).guards = some [] → sp vs H Q E →
      ∃ t, PSs (cxOf CX0 P w K mg base N x (defScope st) f (.ref (He.codeOf K (x, none))) A outer s H E).nox (defBody st) t ∧ t { nx := fun _ H' => Q .non H', rt := Q } (start N vs) H) :
    PromG P w K mg base (k + 1) x st ps sp := by
  obtain ⟨fd, F, hm⟩ := D
  have key : ∀ cdv, (∃ (oc : Value) (od : Option Addr) (dV kV doc pm : Value) (an : Option Addr) (ct : Value) (osl : Array (Option Value)), K.lookup (He.fAd K (x, none)) = some ⟨oc, od, .func (PySem.W.fnOf x x (defArgs st) (defBody st) (defScope st) dV kV doc pm an cdv ct), osl⟩ ∧ PySem.W.codeIn K cdv x = true) → cdv = .ref (He.codeOf K (x, none)) := by
    rintro cdv ⟨oc, od, dV, kV, doc, pm, an, ct, osl, lk, hc⟩
    obtain ⟨c, rfl⟩ := He.codeIn_ref hc
    rw [He.codeOf_eq lk rfl]
  obtain ⟨c1, c2, c3, c4, c5, c6, c7, cdv, c9, c10, rfl, look, code, d1, d2⟩ := F.ex
  have e := key cdv ⟨_, _, _, _, _, _, _, _, _, look, code⟩
  subst e
  refine ⟨_, _, ⟨len, fun A outer s H args us vs Q E room gd e0 hbind rel want => ?_⟩, hm, F, F.bindsN hb⟩
  have old : ∀ b o, base.get? b = some o → s.heap.get? b = some o := fun b o e => (e0.bs b o e).1
  have inK : K.In s.heap := e0.mod.kin.keeps old
  have kinds : ∀ y ∈ ps.zip us, (defScope st).names.lookup y.1 = some .local ∨ ((defScope st).names.lookup y.1 = some .cell ∧ ((cellsFrom (s.heap.objs.size + 1) (defScope st).names []).lookup y.1).isSome = true) := by
    rintro ⟨n, v⟩ hy
    have hm : n ∈ ps := (List.of_mem_zip hy).1
    cases S.par n hm with
    | inl z => exact Or.inl z
    | inr z => exact Or.inr ⟨z, PySem.W.cellsFrom_some _ _ _ (.inl z)⟩
  obtain ⟨t, dt, rt⟩ := hbody _ A outer s H vs Q E (room.deeper _) gd want
  have dt := dt.nox
  refine codeAny_call_function room.depth (inK _ _ look) rfl S.co S.gen rfl (PySem.W.codeRec_of inK code) ?_
  refine hbind _ _ _ _ (wpAny_newFunctionEnv_cells S.kind kinds ?_)
  rintro _ rfl s1 ic
  refine ⟨(e0.mod.nolimit.keeps old).keeps ic.toInCall.keep, codeAny_func ?_⟩
  refine wpAny_mono (dt.run [] s1 (start N vs) H _ (inv_start S room.hd e0 (len _ _ _ _ want) rel ic) rt) ?_ (fun _ _ z => z)
  intro fl s' hs
  cases fl with
  | ret u => exact let ⟨v, _, H', J, rv, qv⟩ := hs; ⟨v, H', J.os, J.bare, J.base, J.hok, rv, qv⟩
  | next => exact let ⟨_, H', J, qv⟩ := hs; ⟨.non, H', J.os, J.bare, J.base, J.hok, rfl, qv⟩
  | brk => exact let ⟨_, _, _, qv⟩ := hs; False.elim qv
  | cont => exact let ⟨_, _, _, qv⟩ := hs; False.elim qv
end Sz
/-! error classes of the program by their promises; the table of all error classes -/
namespace Sz
open PySem PySem.Spec PyProof.Rows L2
/-- C(v) makes an error with the field f -/
structure PromE (P : Program) (w : World) (K : PySem.W.Frag) (mg : Str → Option Value) (base : Heap) (k : Nat) (C f : Str) : Prop where
  T : ErrC K (He.ga K C) (He.ma K (He.ga K C) "__init__") f
  mg_ : mg C = some (.ref (He.ga K C))
  ex : ∃ fd ps, FnOk P w K mg base CX0 k (He.ma K (He.ga K C) "__init__") fd ps (spErr K (He.ga K C) (He.ma K (He.ga K C) "__init__") f) ∧ Binds K fd ps []
theorem PromE.of {P : Program} {w : World} {K : PySem.W.Frag} {mg : Str → Option Value} {base : Heap} {C f q p0 p1 : Str} {st : Stmt} {a1 a2 a3 a4 : Pos} (T : ErrC K (He.ga K C) (He.ma K (He.ga K C) "__init__") f) (hm : mg C = some (.ref (He.ga K C))) (D : DefAtM K C "__init__" q st) (S : FnScope [p0, p1] [p0, p1] (defScope st))
    (hbd : defBody st = [.Assign [.Attribute (.Name p0 a1) f a2] (.Name p1 a3) a4]) (l0 : (defScope st).names.lookup p0 = some .local) (l1 : (defScope st).names.lookup p1 = some .local)
    (hb : ∀ (kV doc pm : Value) (an : Option Addr) (cdv ct : Value) (us : List Value), us.length = 2 → bindArgs (PySem.W.fnOf "__init__" q (defArgs st) (defBody st) (defScope st) .none kV doc pm an cdv ct) ⟨us, []⟩ = pure ([p0, p1].zip us))
    (d0 : (p0 == ("__debug__" : Str)) = false := by decide) (d1 : (p1 == ("__debug__" : Str)) = false := by decide) (e0 : (p0 == ("__classdict__" : Str)) = false := by decide) (e1 : (p1 == ("__classdict__" : Str)) = false := by decide) : PromE P w K mg base 1 C f := by
  obtain ⟨fd, F⟩ := D
  refine ⟨T, hm, fd, [p0, p1], F.ok (k := 0) S (fun vs H Q E h => ?_) (fun cdv A outer s H vs Q E hr h => ?_), F.bindsN (ps := [p0, p1]) hb⟩
  · obtain ⟨a, v, rfl, _⟩ := h
    rfl
  · obtain ⟨a, v, rfl, T', ha, k⟩ := h
    rw [hbd]
    exact ⟨_, pss_one (ps_errFld (pe_var (i := 0) rfl (.inl l0) d0 e0) (pe_var (i := 1) rfl (.inl l1) d1 e1)), v, rfl, .ref a, rfl, a, _, _, rfl, T', ha, fun dx h1 h2 => k dx h1 h2⟩
section
variable {X : Cx} {x f : Str} {e : Expr} {te : TE} {k : Nat} {p pos rpos : Pos} {W : WX}
/-- raise C(e) -/
theorem ps_raiseE (G : PromE X.prog X.w X.K X.mg X.base k x f) (hr : Room (k + 1) X.A) (hg : Gl X x) (tk : Takes X W) (he : PE X e te) (hc : X.calm = true := by rfl)
    (hdb : (x == ("__debug__" : Str)) = false := by decide) (hst : starEach [e] X.env = (false, eval e X.env) :: starEach [] X.env := by rfl) (hpl : (backTo pos (starEach [] X.env)).any (·.1) = false := by rfl) :
    PS X (.Raise (some (.Call (.Name x p) [e] [] pos)) none rpos) (fun _ σ H => te σ H fun v H1 => ∀ d, H1 d = none → W (.ref (He.ga X.K x)) (some d) σ (upd H1 d (.xd [(f, v)]))) := by
  obtain ⟨fd, ps, F, b⟩ := G.ex
  exact ps_raise hc tk (pmk_err G.T F b hr hg G.mg_ he hdb hst hpl)
end
/-- what a callee lets out, this def lets out -/
theorem passX {P : Program} {w : World} {K : PySem.W.Frag} {mg : Str → Option Value} {base : Heap} {N : List Str} {q : Str} {sc : Scope} {f : Addr} {cdv : Value} {A : Around} {outer : List Env} {s : Shared} {H : Hp} {E : XK} :
    Passes (L2.CX P w) (cxOf (L2.CX P w) P w K mg base N q sc f cdv A outer s H E) E := passes_call (takes_of rfl rfl rfl rfl) (fun _ _ _ _ h => h)
/-! ### facts by looking -/
/-- the built-in base: 0 ValueError, 1 LookupError, 2 ArithmeticError -/
def ebase : Nat → String
  | 0 => "ValueError"
  | 1 => "LookupError"
  | _ => "ArithmeticError"
def etail (b : Nat) : List Value := [.type (ebase b), .type "Exception", .type "BaseException", .type "object"]
def errCB (K : PySem.W.Frag) (b : Nat) (C : Addr) (f : Str) : Bool :=
  PySem.W.excInitIn K C (etail b) (ebase b ++ ".__new__") && (PySem.W.excOver K C (etail b) && (He.eqO (PySem.W.findIn K (.ref C) "__setattr__") (some (some (.builtin "object.__setattr__"))) && (He.eqO (PySem.W.takerIn K C f) (some none) &&
  (PySem.W.hasDictIn K C && (decide (PySem.W.subIn K (.ref C) (.type "BaseException") = some true) && (decide (PySem.W.typeIn K (.ref C) = some (.type "type")) && (PySem.W.keepIn K (.ref C) && (He.eqO (PySem.W.findIn K (.ref C) "__init__") (some (some (.ref (He.ma K C "__init__")))) &&
  decide (PySem.W.typeIn K (.ref (He.ma K C "__init__")) = some (.type "function"))))))))))
theorem errCB_ok {K : PySem.W.Frag} {b : Nat} {C : Addr} {f : Str} (h : errCB K b C f = true) : ErrC K C (He.ma K C "__init__") f := by
  obtain ⟨h1, h⟩ := He.ba h
  obtain ⟨h2, h⟩ := He.ba h
  obtain ⟨h3, h⟩ := He.ba h
  obtain ⟨h4, h⟩ := He.ba h
  obtain ⟨h5, h⟩ := He.ba h
  obtain ⟨h6, h⟩ := He.ba h
  obtain ⟨h7, h⟩ := He.ba h
  obtain ⟨h8, h⟩ := He.ba h
  obtain ⟨h9, h10⟩ := He.ba h
  refine ⟨?_, He.eqO_ok h3, He.eqO_ok h4, h5, of_decide_eq_true h6, of_decide_eq_true h7, h8, He.eqO_ok h9, of_decide_eq_true h10⟩
  match b, h1, h2 with
  | 0, h1, h2 => exact ⟨_, _, _, _, PySem.F.excBase_ValueError, PySem.F.store_ValueError, h1, h2⟩
  | 1, h1, h2 => exact ⟨_, _, _, _, PySem.F.excBase_LookupError, PySem.F.store_LookupError, h1, h2⟩
  | n + 2, h1, h2 => exact ⟨_, _, _, _, PySem.F.excBase_ArithmeticError, PySem.F.store_ArithmeticError, h1, h2⟩
/-- the words of all error classes -/
def ewords : List Str := ["NotAWrap", "NotAStack", "NotARoad", "InvalidKind", "InvalidBase", "InvalidLength", "InvalidNumber", "InvalidText", "InvalidRow", "InvalidNumbers", "InvalidWraps", "InvalidSeen", "InvalidDeeds", "NothingToPop", "NothingToUndo", "Busy", "TooFine", "TooManyWraps", "TooLong"]
def ew (i : Nat) : Str := ewords.getD i Str.empty
/-- of which base, by its place -/
def eb (i : Nat) : Nat := if i < 13 then 0 else if i < 16 then 1 else 2
def excCB (K : PySem.W.Frag) (D : Addr) : Bool := He.eqO (PySem.W.findIn K (.ref D) "__getattribute__") (some (some (.builtin "BaseException.__getattribute__"))) && (He.eqO (PySem.W.findIn K (.ref D) "__getattr__") (some none) && (decide (PySem.W.subIn K (.ref D) (.type "BaseException") = some true) && (PySem.W.hasDictIn K D &&
  (He.eqO (PySem.W.findIn K (.ref D) "__class__") (some (some (.builtin "object.__class__"))) && (He.eqO (PySem.W.specialIn K (.builtin "object.__class__") "__get__") (some (some (.builtin "getset_descriptor.__get__"))) && (decide (PySem.W.takesIn K (.builtin "object.__class__") = some true) && decide (PySem.W.mroIn K D (.type "object") = some true)))))))
theorem excCB_ok {K : PySem.W.Frag} {D : Addr} (h : excCB K D = true) : ExcC K D ∧ XfC K D := by
  obtain ⟨h1, h⟩ := He.ba h
  obtain ⟨h2, h⟩ := He.ba h
  obtain ⟨h3, h⟩ := He.ba h
  obtain ⟨h4, h⟩ := He.ba h
  obtain ⟨h5, h⟩ := He.ba h
  obtain ⟨h6, h⟩ := He.ba h
  obtain ⟨h7, h8⟩ := He.ba h
  exact ⟨⟨He.eqO_ok h1, He.eqO_ok h2, of_decide_eq_true h3, h4, He.eqO_ok h5, He.eqO_ok h6, of_decide_eq_true h7, of_decide_eq_true h8⟩, He.eqO_ok h1, He.eqO_ok h2, of_decide_eq_true h3, h4⟩
def ebs : List Str := ["Misfit", "Untimely", "Excess"]
/-- all that is asked of the error class at place i -/
def etabB (K : PySem.W.Frag) (i : Nat) : Bool := excCB K (He.ga K (ew i)) && ((List.range 19).all (fun j => decide (PySem.W.kitOne K (.ref (He.ga K (ew i))) (.ref (He.ga K (ew j))) = some (decide (i = j)))) &&
  ((List.range 3).all (fun j => decide (PySem.W.kitOne K (.ref (He.ga K (ew i))) (.ref (He.ga K (ebs.getD j Str.empty))) = some (decide (eb i = j))) && decide (PySem.W.kitOne K (.ref (He.ga K (ew i))) (.type (ebase j)) = some (decide (eb i = j)))) &&
  (([("value" : Str), "index", "limit"]).all (fun f => He.eqO (PySem.W.findIn K (.ref (He.ga K (ew i))) f) (some none)) && decide (PySem.W.exmAny K (.ref (He.ga K (ew i))) [.ref (He.ga K "Misfit"), .ref (He.ga K "Untimely"), .ref (He.ga K "Excess")] = some true))))
structure ErrTab (K : PySem.W.Frag) : Prop where
  exc : ∀ i < 19, ExcC K (He.ga K (ew i))
  xf : ∀ i < 19, XfC K (He.ga K (ew i))
  kit : ∀ i < 19, ∀ j < 19, PySem.W.kitOne K (.ref (He.ga K (ew i))) (.ref (He.ga K (ew j))) = some (decide (i = j))
  kb : ∀ i < 19, ∀ j < 3, PySem.W.kitOne K (.ref (He.ga K (ew i))) (.ref (He.ga K (ebs.getD j Str.empty))) = some (decide (eb i = j))
  ko : ∀ i < 19, ∀ j < 3, PySem.W.kitOne K (.ref (He.ga K (ew i))) (.type (ebase j)) = some (decide (eb i = j))
  no : ∀ i < 19, ∀ f ∈ [("value" : Str), "index", "limit"], PySem.W.findIn K (.ref (He.ga K (ew i))) f = some none
  any : ∀ i < 19, PySem.W.exmAny K (.ref (He.ga K (ew i))) [.ref (He.ga K "Misfit"), .ref (He.ga K "Untimely"), .ref (He.ga K "Excess")] = some true
theorem etab_ok {K : PySem.W.Frag} (h : (List.range 19).all (etabB K) = true) : ErrTab K := by
  have g : ∀ i < 19, etabB K i = true := fun i hi => List.all_eq_true.mp h i (List.mem_range.mpr hi)
  have k : ∀ i < 19, _ := fun i hi => He.ba (g i hi)
  refine ⟨fun i hi => (excCB_ok (He.ba (g i hi)).1).1, fun i hi => (excCB_ok (He.ba (g i hi)).1).2, fun i hi j hj => ?_, fun i hi j hj => ?_, fun i hi j hj => ?_, fun i hi f hf => ?_, fun i hi => ?_⟩
  · exact of_decide_eq_true (List.all_eq_true.mp (He.ba (He.ba (g i hi)).2).1 j (List.mem_range.mpr hj))
  · exact of_decide_eq_true (He.ba (List.all_eq_true.mp (He.ba (He.ba (He.ba (g i hi)).2).2).1 j (List.mem_range.mpr hj))).1
  · exact of_decide_eq_true (He.ba (List.all_eq_true.mp (He.ba (He.ba (He.ba (g i hi)).2).2).1 j (List.mem_range.mpr hj))).2
  · exact He.eqO_ok (List.all_eq_true.mp (He.ba (He.ba (He.ba (He.ba (g i hi)).2).2).2).1 f hf)
  · exact of_decide_eq_true (He.ba (He.ba (He.ba (He.ba (g i hi)).2).2).2).2
end Sz
/-! repr(x) by an own __repr__ -/
namespace Sz
open PySem PySem.Spec PyProof.Rows L2
section
variable {X : Cx} {CX : CXT} {k n : Nat} {C : Str} {ps : List Str} {sp : Sp} {E : XK}
theorem cr_reprO (G : PromM X.prog X.w X.K X.mg X.base CX k C "__repr__" ps sp) (hr : Room (k + 1) X.A) (hx : Passes CX X E) :
    CallR X (.builtin "repr") (fun xs H Q => ∃ p dx fs, xs = [.ref p] ∧ H p = some (.ins (He.ga X.K C) dx fs) ∧ sp [.ref p] H (fun v H2 => ∃ y : Str, v = .str y ∧ Q (.str y) H2) E) := by
  intro pins s σ H xs us Q I r h
  obtain ⟨p, dx, fs, rfl, hp, h⟩ := h
  obtain ⟨u, rfl, ru⟩ := vals1 r
  obtain rfl : u = Value.ref p := ru
  obtain ⟨m1, O1, _⟩ := ins_get I.hok hp
  obtain ⟨od1, J1, _⟩ := O1.look
  obtain ⟨m, hF⟩ := I.fr
  refine PySem.W.repr_K hr.in1.units0 hF I.ok.mod.kin J1 G.me.at_ G.me.fn ?_
  exact wpAny_mono (run_own G hx (A := X.A.in1) ⟨hr.in1, rfl⟩ (vs := [.ref p]) (us := [.ref p]) I (.cons rfl .nil) h) (fun v s' z => strBack_of z) fun _ _ z => z
end
end Sz
/-! what isinstance says of things of many kinds, own classes among them; methods that raise, methods in the suite that handles an error -/
namespace Sz
open PySem PySem.Spec PyProof.Rows L2
def btys : List String := ["int", "bool", "NoneType", "str", "list", "tuple", "dict", "float"]
structure KitTab (K : PySem.W.Frag) (Cs : List Str) : Prop where
  bt : ∀ T ∈ btys, ∀ C ∈ Cs, PySem.W.kitOne K (.type T) (.ref (He.ga K C)) = some false
  tb : ∀ C ∈ Cs, ∀ T ∈ btys, PySem.W.kitOne K (.ref (He.ga K C)) (.type T) = some false
  tt : ∀ C ∈ Cs, ∀ D ∈ Cs, PySem.W.kitOne K (.ref (He.ga K C)) (.ref (He.ga K D)) = some (decide (C = D))
def kitTabB (K : PySem.W.Frag) (Cs : List Str) : Bool :=
  (btys.all fun T => Cs.all fun C => decide (PySem.W.kitOne K (.type T) (.ref (He.ga K C)) = some false)) &&
  ((Cs.all fun C => btys.all fun T => decide (PySem.W.kitOne K (.ref (He.ga K C)) (.type T) = some false)) &&
  (Cs.all fun C => Cs.all fun D => decide (PySem.W.kitOne K (.ref (He.ga K C)) (.ref (He.ga K D)) = some (decide (C = D)))))
theorem kitTab_ok {K : PySem.W.Frag} {Cs : List Str} (h : kitTabB K Cs = true) : KitTab K Cs := by
  obtain ⟨h1, h⟩ := He.ba h
  obtain ⟨h2, h3⟩ := He.ba h
  exact ⟨fun T hT C hC => of_decide_eq_true (List.all_eq_true.mp (List.all_eq_true.mp h1 T hT) C hC), fun C hC T hT => of_decide_eq_true (List.all_eq_true.mp (List.all_eq_true.mp h2 C hC) T hT), fun C hC D hD => of_decide_eq_true (List.all_eq_true.mp (List.all_eq_true.mp h3 C hC) D hD)⟩
theorem tyX_same {K : PySem.W.Frag} {H H' : Hp} {v : V} {t : Value} (s : Same H H') (h : TyX K H v t) : TyX K H' v t := by
  cases h with
  | base h =>
    cases h with
    | non => exact .base .non
    | bl x => exact .base (.bl x)
    | int i => exact .base (.int i)
    | str x => exact .base (.str x)
    | flt x => exact .base (.flt x)
    | lst e => exact .base (.lst (s _ _ e))
    | frz e => exact .base (.frz (s _ _ e))
    | tup e => exact .base (.tup (s _ _ e))
    | dK e => exact .base (.dK (s _ _ e))
    | dT e => exact .base (.dT (s _ _ e))
    | ins e a b c d f => exact .base (.ins (s _ _ e) a b c d f)
  | byt b => exact .byt b
  | set e => exact .set (s _ _ e)
  | kList e c => exact .kList e c
  | kTuple e c => exact .kTuple e c
  | kDict e c => exact .kDict e c
  | fTuple e => exact .fTuple (s _ _ e)
  | fDict e => exact .fDict (s _ _ e)
section
variable {P : Program} {w : World} {K : PySem.W.Frag} {mg : Str → Option Value} {base : Heap}
/-- a method that may raise -/
theorem PromM.ofX {C m q : Str} {st : Stmt} {ps N : List Str} {sp : Sp} {k : Nat} (cl : Cls K (He.ga K C)) (me : Meth K (He.ga K C) m (He.ma K (He.ga K C) m)) (D : DefAtM K C m q st) (S : FnScope N ps (defScope st)) (len : ∀ vs H Q E, sp vs H Q E → vs.length = ps.length)
    (hb : ∀ (kV doc pm : Value) (an : Option Addr) (cdv ct : Value) (us : List Value), us.length = ps.length → bindArgs (PySem.W.fnOf m q (defArgs st) (defBody st) (defScope st) .none kV doc pm an cdv ct) ⟨us, []⟩ = pure (ps.zip us))
    (hbody : ∀ (f : Addr) (cdv : Value) (A : Around) (outer : List Env) (s : Shared) (H : Hp) (vs : List V) (Q : VK) (E : XK), Room k (A.deeper (envOfC q (defScope st) s.heap.objs.size f cdv)) → sp vs H Q E →
      ∃ t, PSs (cxOf (L2.CX P w) P w K mg base N q (defScope st) f cdv A outer s H E) (defBody st) t ∧ t { nx := fun _ H' => Q .non H', rt := Q } (start N vs) H) :
    PromM P w K mg base (L2.CX P w) (k + 1) C m ps sp := by
  obtain ⟨fd, F⟩ := D
  exact ⟨cl, me, fd, F.ok S len (fun cdv A outer s H vs Q E hr hs => hbody _ cdv A outer s H vs Q E hr hs), F.bindsN hb⟩
end
/-! ### a method called in the suite that handles an error -/
structure PromMP (P : Program) (w : World) (K : PySem.W.Frag) (mg : Str → Option Value) (base : Heap) (k : Nat) (C m : Str) (ps : List Str) (sp : Sp) : Prop where
  cl : Cls K (He.ga K C)
  me : Meth K (He.ga K C) m (He.ma K (He.ga K C) m)
  ex : ∃ fd, FnP P w K mg base k (He.ma K (He.ga K C) m) fd ps (fun _ => sp) ∧ Binds K fd ps []
theorem PromMP.of {P : Program} {w : World} {K : PySem.W.Frag} {mg : Str → Option Value} {base : Heap} {C m q : Str} {st : Stmt} {ps N : List Str} {sp : Sp} {k : Nat} (cl : Cls K (He.ga K C)) (me : Meth K (He.ga K C) m (He.ma K (He.ga K C) m)) (D : DefAtM K C m q st) (S : FnScope N ps (defScope st)) (len : ∀ vs H Q E, sp vs H Q E → vs.length = ps.length)
    (hb : ∀ (kV doc pm : Value) (an : Option Addr) (cdv ct : Value) (us : List Value), us.length = ps.length → bindArgs (PySem.W.fnOf m q (defArgs st) (defBody st) (defScope st) .none kV doc pm an cdv ct) ⟨us, []⟩ = pure (ps.zip us))
    (hbody : ∀ (f : Addr) (cdv : Value) (A : Around) (outer : List Env) (s : Shared) (H : Hp) (vs : List V) (Q : VK) (E : XK) (p : Addr × Obj), L2H.RoomH k (A.deeper (envOfC q (defScope st) s.heap.objs.size f cdv)) → (A.deeper (envOfC q (defScope st) s.heap.objs.size f cdv)).guards = some [] → sp vs H Q E →
      ∃ t, PSs (L2H.cxH CX0 P w K mg base N q (defScope st) f cdv A outer s H E p).nox (defBody st) t ∧ t { nx := fun _ H' => Q .non H', rt := Q } (start N vs) H) :
    PromMP P w K mg base (k + 1) C m ps sp := by
  obtain ⟨fd, F⟩ := D
  exact ⟨cl, me, fd, fnP_of F S (fun p vs H Q E h => len vs H Q E h) (fun cdv A outer s H vs Q E p hr hg hs => hbody _ cdv A outer s H vs Q E p hr hg hs), F.bindsN hb⟩
section
variable {X : Cx} {k : Nat} {C : Str} {ps : List Str} {sp : Sp} {a : Addr} {oe : Obj}
/-- repr(x) by an own __repr__, while an error is handled -/
theorem cr_reprOP (G : PromMP X.prog X.w X.K X.mg X.base k C "__repr__" ps sp) (gd : X.A.guards = some []) (hr : L2H.RoomH (k + 1) X.A) (hp : (a, oe) ∈ X.pn) (hs : X.stack = X.env :: X.outer) :
    CallR X (.builtin "repr") (fun xs H Q => ∃ p dx fs, xs = [.ref p] ∧ H p = some (.ins (He.ga X.K C) dx fs) ∧ sp [.ref p] H (fun v H2 => ∃ y : Str, v = .str y ∧ Q (.str y) H2) E0) := by
  intro pins s σ H xs us Q I r h
  obtain ⟨p, dx, fs, rfl, hpp, h⟩ := h
  obtain ⟨u, rfl, ru⟩ := vals1 r
  obtain rfl : u = Value.ref p := ru
  obtain ⟨m1, O1, _⟩ := ins_get I.hok hpp
  obtain ⟨od1, J1, _⟩ := O1.look
  obtain ⟨m, hF⟩ := I.fr
  obtain ⟨fd, F, b⟩ := G.ex
  have pin : L2H.PinOk X.stack H s (a, oe) := by
    obtain ⟨p1, p2, p3, p4, p5⟩ := I.pin (a, oe) (List.mem_append_left _ hp)
    refine ⟨p1, p2, fun z => ?_, p5⟩
    rw [hs] at z
    obtain ⟨en, hen, q⟩ := List.mem_filterMap.mp z
    rcases List.mem_cons.mp hen with z | z
    · subst z
      have nf := I.ok.stk
      rcases nf with nf | ⟨_, nf⟩
      · have nf : X.stack = X.outer := nf
        rw [hs] at nf
        exact absurd (congrArg List.length nf) (by simp)
      · have nf : X.env.frame = some X.env.locals := nf
        rw [nf] at q
        exact p3 (Option.some.inj q).symm
    · exact p4 (List.mem_filterMap.mpr ⟨en, z, q⟩)
  have e0 : Env0 X.prog X.w X.K X.mg X.base X.A.in1 X.stack s H := by
    have e := I.env0
    exact ⟨e.frames, e.mod, e.bs, e.bsz, e.funs, e.frf, e.hok, e.bare⟩
  have hl := F.len (a, oe) _ _ _ _ h
  refine PySem.W.repr_K (by have := hr.un; show X.A.units + 1 < cLine; omega) hF I.ok.mod.kin J1 G.me.at_ G.me.fn ?_
  have run : wpAny (model X.prog X.w) X.A.in1 (call (.ref (He.ma X.K (He.ga X.K C) "__repr__")) [.ref p]) (EP X pins σ (fun v H2 => ∃ y : Str, v = .str y ∧ Q (.str y) H2)) X.xe s := by
    refine wpAny_call (codeAny_mono (F.run X.A.in1 X.stack s H ⟨[.ref p], []⟩ [.ref p] [.ref p] _ E0 (a, oe) ⟨by have := hr.dp; show X.A.depth + 3 * k + 5 < _; omega, by have := hr.un; show X.A.units + 1 + 16 * k + 200 < _; omega⟩ gd pin e0 (by
      have := b s [.ref p] I.kIn (by simpa using hl)
      simpa using this) (.cons rfl .nil) h) fun rr s' hq => ?_)
    cases rr with
    | error e => exact False.elim hq
    | ok fl =>
      cases fl with
      | ret v =>
        obtain ⟨z, H', I', rz, q⟩ := I.after hq
        exact ⟨z, H', I', rz, q⟩
      | next => exact False.elim hq
      | brk => exact False.elim hq
      | cont => exact False.elim hq
  exact wpAny_mono run (fun v s' z => strBack_of z) fun _ _ z => z
end
/-! ### what follows a statement, said once -/
def tMid (t : TS) : TS := fun D σ H => ∃ P : L2.St → Hp → Prop, (∀ σ' H', P σ' H' → D.nx σ' H') ∧ t { D with nx := P } σ H
theorem ps_mid {X : Cx} {s : Stmt} {t : TS} (h : PS X s t) : PS X s (tMid t) := by
  refine ⟨fun pins s0 σ H D I ⟨P, hP, ht⟩ => wpAny_mono (h.run pins s0 σ H { D with nx := P } I ht) (fun fl s' z => ?_) fun _ _ z => z⟩
  cases fl with
  | next => exact let ⟨σ', H', J, q⟩ := z; ⟨σ', H', J, hP σ' H' q⟩
  | ret u => exact z
  | brk => exact z
  | cont => exact z
end Sz
/-! a <= b <= c <= .. as a test, of any length -/
namespace Sz
open PySem PySem.Spec PyProof.Rows L2
/-- len within a comprehension -/
def rLenS (K : PySem.W.Frag) : List V → Hp → VK → Prop := fun xs H Q => ∃ p ys, xs = [V.ref p] ∧ (SqL K H p ys ∨ SqT K H p ys) ∧ Q (V.int (ys.length : Nat)) H
abbrev TL := V → L2.St → Hp → (Bool → Hp → Prop) → Prop
section
variable {X : Cx} {a b c : Expr} {cs : List Expr} {op op' : CmpOp} {ops : List CmpOp} {ta tb : TE} {r : R2} {t : TL} {pos : Pos}
/-- the rest of a chain, behind a value -/
def PL (X : Cx) (ops : List CmpOp) (cs : List Expr) (t : TL) : Prop :=
  ∀ (pos : Pos) (pins : List (Addr × Obj)) (s : Shared) (σ : L2.St) (H : Hp) (x : V) (v : Value) (Q : Bool → Hp → Prop), Inv X pins σ H s → RelV x v → t x σ H Q →
    wpAny (model X.prog X.w) X.A (testChain pos v ops (evalEach cs X.env)) (fun k s' => ∃ H', Inv X pins σ H' s' ∧ Q k H') X.xe s
def tlLast (r : R2) (tb : TE) : TL := fun x σ H Q => tb σ H fun y H2 => r x y H2 fun z H3 => ∃ k, z = .bl k ∧ Q k H3
def tlMore (r : R2) (tb : TE) (t : TL) : TL := fun x σ H Q => tb σ H fun y H2 => r x y H2 fun z H3 => ∃ k, z = .bl k ∧ if k = true then t y σ H3 Q else Q false H3
theorem pl_last (ho : OpR X (compareOp op) r) (hb : PE X b tb) : PL X [op] [b] (tlLast r tb) := by
  intro pos pins s σ H x v Q I rx h
  refine test_last (thn (hb.run pins s σ H _ I h) fun u s2 ⟨y, H2, I2, r2, q2⟩ => thn (ho pins s2 σ H2 x y v u _ I2 rx r2 q2) fun d s3 ⟨z, H3, I3, r3, k, e, q3⟩ => ?_)
  subst e
  cases r3
  exact wpAny_truthy_bool ⟨H3, I3, q3⟩
theorem pl_more (ho : OpR X (compareOp op) r) (hb : PE X b tb) (hr : PL X (op' :: ops) (c :: cs) t) : PL X (op :: op' :: ops) (b :: c :: cs) (tlMore r tb t) := by
  intro pos pins s σ H x v Q I rx h
  refine test_link (thn (hb.run pins s σ H _ I h) fun u s2 ⟨y, H2, I2, r2, q2⟩ => thn (ho pins s2 σ H2 x y v u _ I2 rx r2 q2) fun d s3 ⟨z, H3, I3, r3, k, e, q3⟩ => ?_)
  subst e
  cases r3
  refine wpAny_truthy_bool ?_
  cases k with
  | false => exact ite_ff ⟨H3, I3, q3⟩
  | true => exact ite_tt (hr pos pins s3 σ H3 y u Q I3 r2 q3)
def tChs (ta : TE) (t : TL) : TT := fun σ H Q => ta σ H fun x H1 => t x σ H1 Q
theorem pt_chains (ha : PE X a ta) (hr : PL X (op :: op' :: ops) (b :: c :: cs) t) (hm : lastMarks (op :: op' :: ops) (b :: c :: cs) = false := by with_unfolding_all rfl) :
    PT X (.Compare a (op :: op' :: ops) (b :: c :: cs) pos) (tChs ta t) := by
  refine ⟨fun pins s σ H Q I h => ?_⟩
  exact isTrue_chain (thn (ha.run pins s σ H _ I h) fun v s1 ⟨x, H1, I1, r1, q1⟩ => hr pos pins s1 σ H1 x v Q I1 r1 q1) hm
end
end Sz
/-! methods called with a keyword; a list times an integer -/
namespace Sz
open PySem PySem.Spec PyProof.Rows L2
/-- a method's promise, its function known -/
structure PromMD (P : Program) (w : World) (K : PySem.W.Frag) (mg : Str → Option Value) (base : Heap) (CX : CXT) (k : Nat) (C m q : Str) (st : Stmt) (ps : List Str) (sp : Sp) : Prop where
  cl : Cls K (He.ga K C)
  me : Meth K (He.ga K C) m (He.ma K (He.ga K C) m)
  ex : ∃ fd, FnOk P w K mg base CX k (He.ma K (He.ga K C) m) fd ps sp ∧ Binds K fd ps [] ∧ FunD K m q (defArgs st) (defBody st) (defScope st) [] [] (He.ma K (He.ga K C) m) fd
theorem PromMD.m {P : Program} {w : World} {K : PySem.W.Frag} {mg : Str → Option Value} {base : Heap} {CX : CXT} {k : Nat} {C m q : Str} {st : Stmt} {ps : List Str} {sp : Sp} (h : PromMD P w K mg base CX k C m q st ps sp) : PromM P w K mg base CX k C m ps sp :=
  let ⟨fd, F, b, _⟩ := h.ex
  ⟨h.cl, h.me, fd, F, b⟩
theorem PromMD.of {P : Program} {w : World} {K : PySem.W.Frag} {mg : Str → Option Value} {base : Heap} {C m q : Str} {st : Stmt} {ps N : List Str} {sp : Sp} {k : Nat} (cl : Cls K (He.ga K C)) (me : Meth K (He.ga K C) m (He.ma K (He.ga K C) m)) (D : DefAtM K C m q st) (S : FnScope N ps (defScope st)) (len : ∀ vs H Q E, sp vs H Q E → vs.length = ps.length)
    (hb : ∀ (kV doc pm : Value) (an : Option Addr) (cdv ct : Value) (us : List Value), us.length = ps.length → bindArgs (PySem.W.fnOf m q (defArgs st) (defBody st) (defScope st) .none kV doc pm an cdv ct) ⟨us, []⟩ = pure (ps.zip us))
    (hbody : ∀ (f : Addr) (cdv : Value) (A : Around) (outer : List Env) (s : Shared) (H : Hp) (vs : List V) (Q : VK) (E : XK), Room k (A.deeper (envOfC q (defScope st) s.heap.objs.size f cdv)) → sp vs H Q E →
      ∃ t, PSs (cxOf CX0 P w K mg base N q (defScope st) f cdv A outer s H E).nox (defBody st) t ∧ t { nx := fun _ H' => Q .non H', rt := Q } (start N vs) H) :
    PromMD P w K mg base CX0 (k + 1) C m q st ps sp := by
  obtain ⟨fd, F⟩ := D
  refine ⟨cl, me, fd, F.ok S len (fun cdv A outer s H vs Q E hr hs => ?_), F.bindsN hb, F⟩
  obtain ⟨t, h1, h2⟩ := hbody _ cdv A outer s H vs Q E hr hs
  exact ⟨t, h1.nox, h2⟩
/-- the receiver and one value by its name -/
def two1 {α : Type} (us ws : List α) : List α := match us, ws with
  | [u], [w] => [u, w]
  | _, _ => []
theorem two1_vals {vs zs : List V} {us ws : List Value} (r : Vals vs us) (z : Vals zs ws) : Vals (two1 vs zs) (two1 us ws) := by
  cases r with
  | nil => exact .nil
  | cons a r =>
    cases r with
    | cons _ _ => exact .nil
    | nil =>
      cases z with
      | nil => exact .nil
      | cons b z =>
        cases z with
        | nil => exact .cons a (.cons b .nil)
        | cons _ _ => exact .nil
theorem kb_two {K : PySem.W.Frag} {m q : Str} {st : Stmt} {ps ks : List Str} {f : Addr} {fd : FuncData} (hne : ps.length = 2)
    (h : ∀ (kV doc pm : Value) (an : Option Addr) (cdv ct u w : Value), bindArgs (PySem.W.fnOf m q (defArgs st) (defBody st) (defScope st) .none kV doc pm an cdv ct) ⟨[u], ks.zip [w]⟩ = pure (ps.zip [u, w]))
    (F : FunD K m q (defArgs st) (defBody st) (defScope st) [] [] f fd) : KBinds K fd ps ks two1 two1 := by
  obtain ⟨oc, od, dV, kV, doc, pm, an, cdv, ct, osl, rfl, lk, hcd, hD, hK⟩ := F.ex
  rcases hD with ⟨_, rfl⟩ | ⟨e, _⟩
  · refine ⟨fun s us ws _ hl => ?_, fun r z => two1_vals r z⟩
    match us, ws with
    | [u], [w] => exact .of_eq (h kV doc pm an cdv ct u w)
    | [], _ => exact absurd hl (by show ¬ 0 = _; omega)
    | _ :: _ :: _, _ => exact absurd hl (by show ¬ 0 = _; omega)
    | [_], [] => exact absurd hl (by show ¬ 0 = _; omega)
    | [_], _ :: _ :: _ => exact absurd hl (by show ¬ 0 = _; omega)
  · exact absurd rfl e
/-- o.m(k = v) -/
def tMethK (C : Addr) (m : Str) (sp : Sp) (E : XK) (ta : TE) (tk : TA) : TE := fun σ H Q => ta σ H fun x H1 => ∃ a dx fs, x = .ref a ∧ H1 a = some (.ins C dx fs) ∧ fs.lookup m = none ∧
  tk σ H1 fun zs H2 => sp (two1 [x] zs) H2 Q E
section
variable {X : Cx} {CX : CXT} {k : Nat} {C m q : Str} {st : Stmt} {ps ks : List Str} {sp : Sp} {E : XK} {o : Expr} {kws : List Keyword} {ta : TE} {tk : TA} {apos pos : Pos}
theorem pe_methKP {pl : Sem Bool} (G : PromMD X.prog X.w X.K X.mg X.base CX k C m q st ps sp) (hr : Room k X.A) (hx : Passes CX X E) (hne : ps.length = 2)
    (hb : ∀ (kV doc pm : Value) (an : Option Addr) (cdv ct u w : Value), bindArgs (PySem.W.fnOf m q (defArgs st) (defBody st) (defScope st) .none kV doc pm an cdv ct) ⟨[u], ks.zip [w]⟩ = pure (ps.zip [u, w]))
    (he : PE X o ta) (hkw : PK X kws tk) (hall : (backToKw pos (keywordEach kws X.env)).all (·.1.isSome) = true := by rfl) (hks : (backToKw pos (keywordEach kws X.env)).filterMap (·.1) = ks := by rfl)
    (hpl : ((backTo pos (starEach [] X.env)).any (·.1) || (backToKw pos (keywordEach kws X.env)).any (·.1.isNone)) = false := by rfl)
    (ht : eval (.Call (.Attribute o m apos) [] kws pos) X.env = (do
      let ov ← eval o X.env
      standAt apos.atName
      let (f, first) ← holding [ov] (getMethod ov m pl)
      callWith pos f first (backTo pos (starEach [] X.env)) (backToKw pos (keywordEach kws X.env))) := by rfl) :
    PE X (.Call (.Attribute o m apos) [] kws pos) (tMethK (He.ga X.K C) m sp E ta tk) := by
  obtain ⟨fd, F, _, D⟩ := G.ex
  have kb := kb_two hne hb D
  refine ⟨fun pins s σ H Q I h => ?_⟩
  refine PySem.W.methodCall_KW (pl := pl) (thn (he.run pins s σ H _ I h) fun u s1 ⟨x, H1, I1, rx, a, dx, fs, ex, ea, l, q⟩ => ?_) ht
  subst ex
  obtain rfl : u = Value.ref a := rx
  refine getmeth_ok I1 ea G.cl G.me l ?_
  refine PySem.W.callWith_KW0 (first := [.ref a]) (h₀ := X.base) I.ok.mod.kin G.me.kp hall (thn (hkw.run pos pins s1 σ H1 _ I1 q) fun ws s2 ⟨zs, H2, I2, rz, q2⟩ => ⟨I2.kIn, ?_⟩) hpl
  rw [hks]
  exact run_fnk (us := [.ref a]) (vs := [.ref a]) F hr kb hx I2 (.cons rfl .nil) rz q2
end
/-! ### a list times an integer -/
theorem op_mulL {X : Cx} : OpR X (binaryOp .Mult) (fun x y H Q => ∃ (a : Addr) (xs : List V) (n : Nat), x = V.ref a ∧ y = V.int (n : Int) ∧ n ≤ 4 ∧ xs.length ≤ 1000 ∧ SqL X.K H a xs ∧ ∀ p, H p = none → Q (.ref p) (upd H p (.lst (List.replicate n xs).flatten))) := by
  intro pins s σ H x y v u Q I rx ry h
  obtain ⟨a, xs, k, rfl, rfl, k4, xl, hs, q⟩ := h
  obtain rfl : v = Value.ref a := rx
  obtain ⟨tk, rfl⟩ := ry
  obtain ⟨its, rv, ⟨⟨cls, dd, data, sl⟩, n, ho, hc, hdn, hd⟩, hlen⟩ := I.list hs
  have hc1 : cls = Value.type "list" := hc
  have hd1 : data = Data.seq its.toArray n := hd
  subst hc1 hd1
  have hz : its.length ≤ 1000 := by rw [← rv.length]; exact xl
  have hsl := sizeLine_eq
  have hm : its.toArray.size * ((k : Int)).toNat ≤ 4000 := by
    rw [List.size_toArray]
    show its.length * k ≤ 4000
    exact Nat.mul_le_mul hz k4
  have e0 : ((k : Nat) : Int).toNat = k := rfl
  have f0 : Builtin.List.listFitsIndex ((k : Nat) : Int) = true := by
    have : k = 0 ∨ k = 1 ∨ k = 2 ∨ k = 3 ∨ k = 4 := by omega
    rcases this with rfl | rfl | rfl | rfl | rfl <;> decide
  have f1 : ¬ its.toArray.size * ((k : Nat) : Int).toNat > (2 ^ 63 - 1) / 8 := by
    have : (4000 : Nat) ≤ (2 ^ 63 - 1) / 8 := by decide
    omega
  have f2 : ¬ Builtin.List.listTooLong (its.toArray.size * ((k : Nat) : Int).toNat) = true := fun z => by
    have z := of_decide_eq_true z
    omega
  clear hm
  generalize ((k : Nat) : Int) = x at *
  refine wpAny_binaryOp_repeat_ref (T := "list") (U := "int") (by decide) ⟨_, ho, rfl⟩ (fun s' => typeIs_int s' _ tk) noFill_list_mul F.fills_int_mul F.slot_int_rmul repeat_list F.slot_int_index.lookup
    (call_meets F.slot_int_rmul (typeIs_int s _ tk) F.entry_int_rmul (F.args_int_rmul_2 _ _) (lm_int_rmul_list_any x tk a its.toArray n dd sl)
      ⟨ho, rfl, ⟨_, ho, rfl⟩, call_meets F.slot_list_mul ⟨_, ho, rfl⟩ F.entry_list_mul (F.args_list_mul_2 _ _)
        (lm_list_mul_any a its.toArray n dd sl x tk (by rw [f0]; decide) f1 f2)
        (And.intro ho ?_)⟩)
  rw [listMul_foldl_if, e0]
  refine ⟨.ref s.heap.objs.size, upd H s.heap.objs.size (.lst (List.replicate k xs).flatten), I.laid (t' := s.toks) (fun b o e => Heap.get?_push_of_some _ e) (Nat.le_refl _) ⟨?_, _, 0, ?_, Heap.get?_push_size _ rfl⟩, rfl, q _ (I.hok.fresh (Nat.le_refl _))⟩
  · have key : ∀ j : Nat, (List.replicate j xs).flatten.length = j * xs.length := fun j => by
      induction j with
      | zero => simp
      | succ j ih => rw [List.replicate_succ, List.flatten_cons, List.length_append, ih, Nat.succ_mul, Nat.add_comm]
    rw [key]
    have := Nat.mul_le_mul k4 xl
    omega
  · show Vals (List.replicate k xs).flatten (List.replicate k its).flatten
    clear q f0 f1 f2 e0 k4
    induction k with
    | zero => exact .nil
    | succ k ih =>
      rw [List.replicate_succ, List.replicate_succ, List.flatten_cons, List.flatten_cons]
      exact rv.append ih
end Sz
/-! a lambda handed to a def that tells the number and the field of what it raises, or what it returns -/
namespace Sz
open PySem PySem.Spec PyProof.Rows L2
def TTold (K : PySem.W.Frag) (cs : List Value) (sp1 sp2 : Addr × Obj → Sp) : (XK → Hp → VK → Prop) → Hp → VK → Prop := fun tl H Q =>
  tl (fun cls d H' => PySem.W.exmAny K cls cs = some true ∧ ∀ a oe, Zc cls d oe → (∃ vs, oe.data = .fields vs) → H' a = none →
      sp1 (a, oe) [.ref a] H' (fun v H2 => sp2 (a, oe) [.ref a, v] H2 (fun u H3 => ∀ l, H3 l = none → Q (.ref l) (upd H3 l (.lst [v, u]))) E0) E0) H
    (fun v H' => ∃ z, Shw K H' v z ∧ ∀ l, H' l = none → Q (.ref l) (upd H' l (.lst [.int (-2), .str z])))
theorem told_gives {X : Cx} {x a t e i h1 h2 : Str} {st st1 st2 : Stmt} {A1 A2 A3 : Str} {c1 c2 c3 : Value} {k : Nat} {ps1 ps2 : List Str} {sp1 sp2 : Addr × Obj → Sp} {p1 p2 p3 p4 p5 p6 p7 p8 p9 p10 p11 p12 p13 p14 p15 p16 p17 p18 p19 p20 p21 p22 p23 p24 p25 p26 p27 p28 p29 : Pos} {x1 j1}
    (hN : [a, t, e, i].Nodup) (hbd : defBody st = [.Try [.Assign [.Name t p1] (.Call (.Name a p2) [] [] p3) p4] [.ExceptHandler (some (.Tuple [.Name A1 p5, .Name A2 p6, .Name A3 p7] x1 p8)) (some e)
        [.Assign [.Name i p9] (.Call (.Name h1 p10) [.Name e p11] [] p12) p13, .Return (some (.List [.Name i p14, .Call (.Name h2 p15) [.Name e p16, .Name i p17] [] p18] p19)) p20] p21] [] [] p22,
      .Return (some (.List [.UnaryOp .USub (.Constant (.int 2) j1 p23) p24, .Call (.Name "repr" p25) [.Name t p26] [] p27] p28)) p29])
    (ka : (defScope st).names.lookup a = some .local) (kt : (defScope st).names.lookup t = some .local) (ke : (defScope st).names.lookup e = some .local) (ki : (defScope st).names.lookup i = some .local) (g1 : (defScope st).names.lookup A1 = some .globalImplicit) (g2 : (defScope st).names.lookup A2 = some .globalImplicit) (g3 : (defScope st).names.lookup A3 = some .globalImplicit)
    (gh1 : (defScope st).names.lookup h1 = some .globalImplicit) (gh2 : (defScope st).names.lookup h2 = some .globalImplicit) (gr : (defScope st).names.lookup ("repr" : Str) = some .globalImplicit) (m1 : X.mg A1 = some c1) (m2 : X.mg A2 = some c2) (m3 : X.mg A3 = some c3) (mr : X.mg "repr" = none)
    (G1 : PromP X.prog X.w X.K X.mg X.base k h1 st1 ps1 sp1) (G2 : PromP X.prog X.w X.K X.mg X.base k h2 st2 ps2 sp2) (gd : X.A.guards = some []) (hr : Room (k + 1) X.A)
    (d1 : (A1 == ("__debug__" : Str)) = false := by decide) (d2 : (A2 == ("__debug__" : Str)) = false := by decide) (d3 : (A3 == ("__debug__" : Str)) = false := by decide) (d4 : (h1 == ("__debug__" : Str)) = false := by decide) (d4' : (h2 == ("__debug__" : Str)) = false := by decide)
    (d5 : (e == ("__debug__" : Str)) = false := by decide) (d6 : (e == ("__classdict__" : Str)) = false := by decide) (d7 : (t == ("__debug__" : Str)) = false := by decide) (d8 : (t == ("__classdict__" : Str)) = false := by decide)
    (d9 : (i == ("__debug__" : Str)) = false := by decide) (d10 : (i == ("__classdict__" : Str)) = false := by decide) :
    Gives X [a, t, e, i] x st a (TTold X.K [c1, c2, c3] sp1 sp2) := by
  intro g cdg f c' s H Q tl act hc hq
  rw [hbd]
  have hu : ∀ env, (X.A.deeper env).units + 64 < cLine := fun env => by have := (hr.deeper env).un; omega
  refine ⟨_, pss_cons (ps_tryA (X := (cxOf C8.CX0 X.prog X.w X.K X.mg X.base [a, t, e, i] x (defScope st) g cdg X.A X.stack s H C8.E0).nox) (Wout := fun _ _ _ _ => False)
    (tb := fun W D σ H => ∃ Ech : XK, (∀ cls d σ' H', Ech cls d H' → σ'.length = 4 → W cls d σ' H') ∧ σ[0]? = some (some (.ref f)) ∧ H c' = some (LamX.CodeO c' (X.env.qual ++ "<lambda>")) ∧ ∃ K : VK, (∀ v H', K v H' → D.nx (σ.set 1 (some v)) H') ∧ tl Ech H K)
    rfl rfl hN L2.takes0 (fun W pn xe tk _ => ?_)
    (ClOk.cons (i := 2) (test_tup g1 g2 g3 m1 m2 m3 d1 d2 d3) rfl ke (fun a' oe cls d pn _ _ =>
      pss_cons (ps_set (i := 3) hN rfl (.inl ki) (pe_weak (pe_callE G1 gd ⟨?_, ?_⟩ gh1 rfl (pa_cons (pe_var (i := 2) rfl (.inl ke) d5 d6) pa_nil) d4)))
        (pss_one (ps_ret (pe_lst (pa_cons (pe_var (i := 3) rfl (.inl ki) d9 d10) (pa_cons (pe_weak (pe_callE G2 gd ⟨?_, ?_⟩ gh2 rfl (pa_cons (pe_var (i := 2) rfl (.inl ke) d5 d6) (pa_cons (pe_var (i := 3) rfl (.inl ki) d9 d10) pa_nil)) d4')) pa_nil)))))) .nil))
    (pss_one (ps_ret (pe_lst (pa_cons (pe_un un_neg pe_int) (pa_cons (pe_callB (cr_reprW gd (hu _)) gr mr (by decide +kernel) (pa_cons (pe_var (i := 1) rfl (.inl kt) d7 d8) pa_nil)) pa_nil))))), ?_⟩
  · constructor
    intro pins s' σ H' D I ⟨Ech, hW, h1, h2, K, hK, h3⟩
    have hp := act _ pn xe Ech p2 p3 (takes_len tk) (fun cls d σ' H' z hl => hW cls d σ' H' z hl)
    exact (pss_one (ps_set (i := 1) (pos := p4) hN rfl (.inl kt) (pe_weak hp))).run pins s' σ H' D I ⟨K, hK, h1, h2, h3⟩
  · exact (hr.deeper _).dp
  · exact (hr.deeper _).un
  · exact (hr.deeper _).dp
  · exact (hr.deeper _).un
  · refine ⟨_, fun cls d σ' H' z hl => ?_, rfl, hc, _, fun v H' z => ?_, hq⟩
    rotate_left
    · obtain ⟨z, hz, k⟩ := z
      exact ⟨_, rfl, ⟨v, rfl, v, z, rfl, hz, (by show 2 ≤ sizeLine; decide), fun l hl => k l hl⟩⟩
    obtain ⟨z1, z2⟩ := z
    refine ⟨true, z1, fun _ a' oe hz hv na => ?_, fun z => Bool.noConfusion z⟩
    have e0 : (σ'.set 2 (some (.ref a')))[2]? = some (some (.ref a')) := by
      rw [List.getElem?_set_self (by omega)]
    refine ⟨fun v H2 => sp2 (a', oe) [.ref a', v] H2 (fun u H3 => ∀ l, H3 l = none → Q (.ref l) (upd H3 l (.lst [v, u]))) E0, fun v H2 z => ?_, ⟨_, e0, z2 a' oe hz hv na⟩⟩
    have e1 : ((σ'.set 2 (some (.ref a'))).set 3 (some v))[3]? = some (some v) := by
      rw [List.getElem?_set_self (by rw [List.length_set]; omega)]
    have e2 : ((σ'.set 2 (some (.ref a'))).set 3 (some v))[2]? = some (some (.ref a')) := by
      rw [List.getElem?_set_ne (by decide)]
      exact e0
    refine ⟨_, e1, fun u H3 => ∀ l, H3 l = none → Q (.ref l) (upd H3 l (.lst [v, u])), fun u H3 z3 => ?_, _, e2, _, e1, z⟩
    exact ⟨(by show 2 ≤ sizeLine; decide), fun l hl => z3 l hl⟩
end Sz
/-! a != b, two lists whose items are the same: flat, one object, or lists again -/
namespace Sz
open PySem PySem.Spec PyProof.Rows L2
def EqL (K : PySem.W.Frag) (H : Hp) : Nat → V → V → Prop
  | 0 => fun _ _ => False
  | n + 1 => fun x y => (x = y ∧ flatB x = true) ∨ (∃ a, x = .ref a ∧ y = .ref a) ∨ ∃ (a b : Addr) (xs ys : List V), x = .ref a ∧ y = .ref b ∧ SqL K H a xs ∧ SqL K H b ys ∧ Paired (EqL K H n) xs ys
theorem items_at {A : Around} {s : Shared} {F : V → V → Prop} (ih : ∀ x y v u, F x y → RelV x v → RelV y u → SeqAt.EqAt A s v u true) {xs ys : List V} (hp : Paired F xs ys) :
    ∀ {us ws : List Value}, Vals xs us → Vals ys ws → ∀ j (h1 : j < us.length) (h2 : j < ws.length), SeqAt.EqAt A s us[j] ws[j] true := by
  induction hp with
  | nil =>
    intro us ws r1 r2 j h1 h2
    cases r1
    exact absurd h1 (Nat.not_lt_zero j)
  | cons h _ k =>
    intro us ws r1 r2 j h1 h2
    cases r1 with
    | cons a1 b1 =>
      cases r2 with
      | cons a2 b2 =>
        cases j with
        | zero => exact ih _ _ _ _ h a1 a2
        | succ j => exact k b1 b2 j (Nat.lt_of_succ_lt_succ h1) (Nat.lt_of_succ_lt_succ h2)
section
variable {X : Cx} {pins : List (Addr × Obj)} {σ : L2.St} {H : Hp} {s : Shared}
theorem eqL_at (I : Inv X pins σ H s) : ∀ (n : Nat) (A : Around), A.units + n < cLine → ∀ (x y : V) (v u : Value), EqL X.K H n x y → RelV x v → RelV y u → SeqAt.EqAt A s v u true
  | 0, _, _, _, _, _, _, h, _, _ => (show False from h).elim
  | n + 1, A, hu, x, y, v, u, h, rx, ry => by
    rcases h with ⟨rfl, f⟩ | ⟨a, rfl, rfl⟩ | ⟨a, b, xs, ys, rfl, rfl, ha, hb, hp⟩
    · exact eqAt_same rx ry f
    · cases (show v = Value.ref a from rx)
      cases (show u = Value.ref a from ry)
      exact SeqAt.EqAt.same _
    · cases (show v = Value.ref a from rx)
      cases (show u = Value.ref b from ry)
      by_cases e : a = b
      · subst e
        exact SeqAt.EqAt.same _
      · obtain ⟨us, r1, p1, _⟩ := I.list ha
        obtain ⟨ws, r2, p2, _⟩ := I.list hb
        have hsz : us.toArray.size = ws.toArray.size := by
          rw [List.size_toArray, List.size_toArray, ← r1.length, ← r2.length]
          exact Paired.length hp
        have step : SeqAt.RcAt A s (.ref a) (.ref b) ((List.range us.toArray.size).all fun _ => true) := SeqAt.RcAt.lists (e := fun _ => true) p1.isList p2.isList hsz (by omega) (fun j h1 h2 => by
          have k := items_at (eqL_at I n A.in1 (by show A.units + 1 + n < cLine; omega)) hp r1 r2 j (by simpa using h1) (by simpa using h2)
          simpa using k)
        rw [show ((List.range us.toArray.size).all fun _ => true) = true from List.all_eq_true.mpr fun _ _ => rfl] at step
        exact SeqAt.EqAt.of_refs e step
end
def rNeL (K : PySem.W.Frag) : R2 := fun x y H Q => ∃ n, n ≤ 60 ∧ (∃ (a b : Addr) (xs ys : List V), x = .ref a ∧ y = .ref b ∧ SqL K H a xs ∧ SqL K H b ys ∧ Paired (EqL K H n) xs ys) ∧ Q (.bl false) H
theorem op_neL {X : Cx} (hu : X.A.units + 64 < cLine) : OpR X (compareOp .NotEq) (rNeL X.K) := by
  intro pins s σ H x y v u Q I rx ry h
  obtain ⟨n, hn, ⟨a, b, xs, ys, rfl, rfl, ha, hb, hp⟩, q⟩ := h
  cases (show v = Value.ref a from rx)
  cases (show u = Value.ref b from ry)
  obtain ⟨us, r1, p1, _⟩ := I.list ha
  obtain ⟨ws, r2, p2, _⟩ := I.list hb
  have hsz : us.toArray.size = ws.toArray.size := by
    rw [List.size_toArray, List.size_toArray, ← r1.length, ← r2.length]
    exact Paired.length hp
  have step := SeqAt.RcNeAt.lists (A := X.A) (e := fun _ => true) p1.isList p2.isList hsz (by omega) (fun j h1 h2 => by
    have k := items_at (eqL_at I n X.A.in1 (by show X.A.units + 1 + n < cLine; omega)) hp r1 r2 j (by simpa using h1) (by simpa using h2)
    simpa using k)
  rw [show ((List.range us.toArray.size).all fun _ => true) = true from List.all_eq_true.mpr fun _ _ => rfl] at step
  exact step X.prog X.w _ _ ⟨.bl false, H, I, rfl, q⟩
end Sz
/-! constructors that raise -/
namespace Sz
open PySem PySem.Spec PyProof.Rows L2
section
variable {P : Program} {w : World} {K : PySem.W.Frag} {mg : Str → Option Value} {base : Heap}
theorem PromC.starX {C q p0 p1 pv : Str} {st : Stmt} {N : List Str} {sp sp0 : Sp} {k : Nat} (mk : Mk K (He.ga K C) (He.ma K (He.ga K C) "__init__")) (hm : mg C = some (.ref (He.ga K C))) (D : DefAtM K C "__init__" q st) (S : FnScope N [p0, p1, pv] (defScope st))
    (h0 : ∀ (kV doc pm : Value) (an : Option Addr) (cdv ct a b : Value), bindArgs (PySem.W.fnOf "__init__" q (defArgs st) (defBody st) (defScope st) .none kV doc pm an cdv ct) ⟨[a, b], []⟩ = (newTuple [] >>= fun t => pure [(p0, a), (p1, b), (pv, t)]))
    (h1 : ∀ (kV doc pm : Value) (an : Option Addr) (cdv ct a b r : Value) (rs : List Value), bindArgs (PySem.W.fnOf "__init__" q (defArgs st) (defBody st) (defScope st) .none kV doc pm an cdv ct) ⟨a :: b :: r :: rs, []⟩ = (newTuple (r :: rs) >>= fun t => pure [(p0, a), (p1, b), (pv, t)]))
    (hbody : ∀ (f : Addr) (cdv : Value) (A : Around) (outer : List Env) (s : Shared) (H : Hp) (vs : List V) (Q : VK) (E : XK), Room k (A.deeper (envOfC q (defScope st) s.heap.objs.size f cdv)) → sp0 vs H Q E →
      ∃ t, PSs (cxOf (L2.CX P w) P w K mg base N q (defScope st) f cdv A outer s H E) (defBody st) t ∧ t { nx := fun _ H' => Q .non H', rt := Q } (start N vs) H)
    (hsp : ∀ vs H Q E, sp vs H Q E → ∃ v rest, vs = v :: rest ∧ rest.length ≤ sizeLine ∧ ∀ x dx p, H x = none → H dx = none → dx ≠ x → p ≠ x → p ≠ dx → H p = none →
      sp0 [.ref x, v, .ref p] (upd (upd (upd H dx (.own x)) x (.ins (He.ga K C) dx [])) p (.tup rest)) (fun u H2 => u = .non ∧ Q (.ref x) H2) E) :
    PromC P w K mg base (L2.CX P w) (k + 1) C sp := by
  obtain ⟨fd, F⟩ := D
  obtain ⟨oc, od, dV, kV, doc, pm, an, cdv, ct, osl, rfl, lk, hcd, hD, hK⟩ := F.ex
  rcases hD with ⟨_, rfl⟩ | ⟨e, _⟩
  · refine ⟨mk, hm, _, StX.fn_star (ps := [p0, p1]) (pv := pv) (sp := sp0) lk hcd S StX.cxUp (StX.bind_star2 (B := fun us => bindArgs _ ⟨us, []⟩) (fun a b => h0 kV doc pm an cdv ct a b) fun a b r rs => h1 kV doc pm an cdv ct a b r rs) (fun A outer s H vs Q E hr hs => hbody _ cdv A outer s H vs Q E hr hs), fun vs H Q E hs x dx hx hdx ne => ?_⟩
    obtain ⟨v, rest, rfl, hl, hq⟩ := hsp vs H Q E hs
    refine ⟨[.ref x, v], rest, rfl, rfl, hl, fun p hp => ?_⟩
    have nx : p ≠ x := fun z => by rw [z, upd_same] at hp; cases hp
    rw [upd_ne nx] at hp
    have nd : p ≠ dx := fun z => by rw [z, upd_same] at hp; cases hp
    rw [upd_ne nd] at hp
    exact hq x dx p hx hdx ne nx nd hp
  · exact absurd rfl e
theorem PromC.plainX {C q : Str} {st : Stmt} {N ps : List Str} {sp sp0 : Sp} {k : Nat} (mk : Mk K (He.ga K C) (He.ma K (He.ga K C) "__init__")) (hm : mg C = some (.ref (He.ga K C))) (D : DefAtM K C "__init__" q st) (S : FnScope N ps (defScope st))
    (len : ∀ vs H Q E, sp0 vs H Q E → vs.length = ps.length)
    (hb : ∀ (kV doc pm : Value) (an : Option Addr) (cdv ct : Value) (us : List Value), us.length = ps.length → bindArgs (PySem.W.fnOf "__init__" q (defArgs st) (defBody st) (defScope st) .none kV doc pm an cdv ct) ⟨us, []⟩ = pure (ps.zip us))
    (hbody : ∀ (f : Addr) (cdv : Value) (A : Around) (outer : List Env) (s : Shared) (H : Hp) (vs : List V) (Q : VK) (E : XK), Room k (A.deeper (envOfC q (defScope st) s.heap.objs.size f cdv)) → sp0 vs H Q E →
      ∃ t, PSs (cxOf (L2.CX P w) P w K mg base N q (defScope st) f cdv A outer s H E) (defBody st) t ∧ t { nx := fun _ H' => Q .non H', rt := Q } (start N vs) H)
    (hsp : ∀ vs H Q E, sp vs H Q E → ∀ x dx, H x = none → H dx = none → dx ≠ x → sp0 (.ref x :: vs) (upd (upd H dx (.own x)) x (.ins (He.ga K C) dx [])) (fun u H2 => u = .non ∧ Q (.ref x) H2) E) :
    PromC P w K mg base (L2.CX P w) (k + 1) C sp := by
  obtain ⟨fd, F⟩ := D
  have F1 : FnOk P w K mg base (L2.CX P w) (k + 1) (He.ma K (He.ga K C) "__init__") fd ps sp0 := F.ok S len (fun cdv A outer s H vs Q E hr hs => hbody _ cdv A outer s H vs Q E hr hs)
  refine ⟨mk, hm, _, F1.raw (F.bindsN hb) .nil, fun vs H Q E hs x dx hx hdx ne => ?_⟩
  rw [List.append_nil]
  exact hsp vs H Q E hs x dx hx hdx ne
end
end Sz
/-! raise C() of an own class without __init__; C(k = v) -/
namespace Sz
open PySem PySem.Spec PyProof.Rows L2
/-- an own error class without __init__: base b (0 ValueError, 1 LookupError, 2 ArithmeticError) -/
def err0B (K : PySem.W.Frag) (b : Nat) (C : Addr) : Bool := PySem.W.excIn K C (etail b) (ebase b ++ ".__new__") && (PySem.W.keepIn K (.ref C) && (decide (PySem.W.subIn K (.ref C) (.type "BaseException") = some true) && decide (PySem.W.typeIn K (.ref C) = some (.type "type"))))
section
variable {X : Cx} {x : Str} {p pos rpos : Pos} {W : WX} {C : Addr} {bmB : List Value} {B newId initId : String}
theorem pmk_own0 (F : ExcBaseFacts B newId initId bmB) (q : PySem.W.excIn X.K C bmB newId = true) (gC : X.mg x = some (.ref C)) (kC : PySem.W.keepIn X.K (.ref C) = true) (r : Raises X (.ref C)) (hg : Gl X x)
    (hdb : (x == ("__debug__" : Str)) = false := by decide) : PMk X (.Call (.Name x p) [] [] pos) (fun _ H Q => Q (.ref C) none H) := by
  intro pins s σ H Q I h
  refine wpAny_Call_Name_kw (ld_glob I hg gC ?_ hdb)
  refine PySem.W.callWith_K0 I.kIn kC ?_
  show wpAny _ _ (call (.ref C) []) _ _ _
  obtain ⟨bm, N, nm, qn, bs, hdct, sn, sub, ab, col, dd, k0, k1, k2, k3, k5, mN, hC, hN, hni, T⟩ := exc_obj I.kIn q
  refine wpAny_call_exc_subT F T hC hN hni (fun h' e hm => ?_) (by show 0 ≤ sizeLine; exact Nat.zero_le _)
  exact mk_of I hm r h (I.hok.gone hm.new)
/-- raise C() -/
theorem ps_raise0 (b : Nat) (q : err0B X.K b (He.ga X.K x) = true) (gC : X.mg x = some (.ref (He.ga X.K x))) (hg : Gl X x) (tk : Takes X W) (hc : X.calm = true := by rfl)
    (hdb : (x == ("__debug__" : Str)) = false := by decide) : PS X (.Raise (some (.Call (.Name x p) [] [] pos)) none rpos) (fun _ σ H => W (.ref (He.ga X.K x)) none σ H) := by
  obtain ⟨h1, h2⟩ := He.ba (show (_ && _) = true from q)
  obtain ⟨h2, h3⟩ := He.ba h2
  obtain ⟨h3, h4⟩ := He.ba h3
  have r : Raises X (.ref (He.ga X.K x)) := raises_own (of_decide_eq_true h3) (of_decide_eq_true h4)
  match b, h1 with
  | 0, h1 => exact ps_raise hc tk (pmk_own0 PySem.F.excBase_ValueError h1 gC h2 r hg hdb)
  | 1, h1 => exact ps_raise hc tk (pmk_own0 PySem.F.excBase_LookupError h1 gC h2 r hg hdb)
  | n + 2, h1 => exact ps_raise hc tk (pmk_own0 PySem.F.excBase_ArithmeticError h1 gC h2 r hg hdb)
end
/-- str of an instance by its own __str__, for comprehensions -/
def rStrO (K : PySem.W.Frag) (C : Str) (sp : Sp) (E : XK) : List V → Hp → VK → Prop := fun xs H Q => ∃ p dx fs, xs = [.ref p] ∧ H p = some (.ins (He.ga K C) dx fs) ∧ sp [.ref p] H (fun v H2 => ∃ y : Str, v = .str y ∧ Q (.str y) H2) E
/-! ### C(k = v) -/
structure PromCD (P : Program) (w : World) (K : PySem.W.Frag) (mg : Str → Option Value) (base : Heap) (CX : CXT) (k : Nat) (C q : Str) (st : Stmt) (ps : List Str) (sp : Sp) : Prop where
  make : Mk K (He.ga K C) (He.ma K (He.ga K C) "__init__")
  mg_ : mg C = some (.ref (He.ga K C))
  ex : ∃ sp0 fd, FnOk P w K mg base CX k (He.ma K (He.ga K C) "__init__") fd ps sp0 ∧ Binds K fd ps [] ∧ FunD K "__init__" q (defArgs st) (defBody st) (defScope st) [] [] (He.ma K (He.ga K C) "__init__") fd ∧
    ∀ vs H Q E, sp vs H Q E → ∀ x dx, H x = none → H dx = none → dx ≠ x → sp0 (V.ref x :: vs) (upd (upd H dx (.own x)) x (.ins (He.ga K C) dx [])) (fun v H2 => v = .non ∧ Q (.ref x) H2) E
section
variable {P : Program} {w : World} {K : PySem.W.Frag} {mg : Str → Option Value} {base : Heap}
theorem PromCD.c {CX : CXT} {k : Nat} {C q : Str} {st : Stmt} {ps : List Str} {sp : Sp} (h : PromCD P w K mg base CX k C q st ps sp) : PromC P w K mg base CX k C sp := by
  obtain ⟨sp0, fd, F1, b, _, hs⟩ := h.ex
  refine ⟨h.make, h.mg_, _, F1.raw b .nil, fun vs H Q E h x dx hx hdx ne => ?_⟩
  rw [List.append_nil]
  exact hs vs H Q E h x dx hx hdx ne
theorem PromCD.plainX {C q : Str} {st : Stmt} {N ps : List Str} {sp sp0 : Sp} {k : Nat} (mk : Mk K (He.ga K C) (He.ma K (He.ga K C) "__init__")) (hm : mg C = some (.ref (He.ga K C))) (D : DefAtM K C "__init__" q st) (S : FnScope N ps (defScope st))
    (len : ∀ vs H Q E, sp0 vs H Q E → vs.length = ps.length)
    (hb : ∀ (kV doc pm : Value) (an : Option Addr) (cdv ct : Value) (us : List Value), us.length = ps.length → bindArgs (PySem.W.fnOf "__init__" q (defArgs st) (defBody st) (defScope st) .none kV doc pm an cdv ct) ⟨us, []⟩ = pure (ps.zip us))
    (hbody : ∀ (f : Addr) (cdv : Value) (A : Around) (outer : List Env) (s : Shared) (H : Hp) (vs : List V) (Q : VK) (E : XK), Room k (A.deeper (envOfC q (defScope st) s.heap.objs.size f cdv)) → sp0 vs H Q E →
      ∃ t, PSs (cxOf (L2.CX P w) P w K mg base N q (defScope st) f cdv A outer s H E) (defBody st) t ∧ t { nx := fun _ H' => Q .non H', rt := Q } (start N vs) H)
    (hsp : ∀ vs H Q E, sp vs H Q E → ∀ x dx, H x = none → H dx = none → dx ≠ x → sp0 (.ref x :: vs) (upd (upd H dx (.own x)) x (.ins (He.ga K C) dx [])) (fun u H2 => u = .non ∧ Q (.ref x) H2) E) :
    PromCD P w K mg base (L2.CX P w) (k + 1) C q st ps sp := by
  obtain ⟨fd, F⟩ := D
  have F1 : FnOk P w K mg base (L2.CX P w) (k + 1) (He.ma K (He.ga K C) "__init__") fd ps sp0 := F.ok S len (fun cdv A outer s H vs Q E hr hs => hbody _ cdv A outer s H vs Q E hr hs)
  exact ⟨mk, hm, sp0, fd, F1, F.bindsN hb, F, hsp⟩
end
section
variable {P : Program} {w : World} {K : PySem.W.Frag} {mg : Str → Option Value} {base : Heap}
theorem PromMD.ofX {C m q : Str} {st : Stmt} {ps N : List Str} {sp : Sp} {k : Nat} (cl : Cls K (He.ga K C)) (me : Meth K (He.ga K C) m (He.ma K (He.ga K C) m)) (D : DefAtM K C m q st) (S : FnScope N ps (defScope st)) (len : ∀ vs H Q E, sp vs H Q E → vs.length = ps.length)
    (hb : ∀ (kV doc pm : Value) (an : Option Addr) (cdv ct : Value) (us : List Value), us.length = ps.length → bindArgs (PySem.W.fnOf m q (defArgs st) (defBody st) (defScope st) .none kV doc pm an cdv ct) ⟨us, []⟩ = pure (ps.zip us))
    (hbody : ∀ (f : Addr) (cdv : Value) (A : Around) (outer : List Env) (s : Shared) (H : Hp) (vs : List V) (Q : VK) (E : XK), Room k (A.deeper (envOfC q (defScope st) s.heap.objs.size f cdv)) → sp vs H Q E →
      ∃ t, PSs (cxOf (L2.CX P w) P w K mg base N q (defScope st) f cdv A outer s H E) (defBody st) t ∧ t { nx := fun _ H' => Q .non H', rt := Q } (start N vs) H) :
    PromMD P w K mg base (L2.CX P w) (k + 1) C m q st ps sp := by
  obtain ⟨fd, F⟩ := D
  exact ⟨cl, me, fd, F.ok S len (fun cdv A outer s H vs Q E hr hs => hbody _ cdv A outer s H vs Q E hr hs), F.bindsN hb, F⟩
end
/-- the new object's promise, in the arguments alone -/
def tNewK (sp : Sp) (E : XK) (tk : TA) : TE := fun σ H Q => tk σ H fun zs H2 => zs.length = 1 ∧ sp zs H2 Q E
section
variable {X : Cx} {CX : CXT} {k : Nat} {x q : Str} {st : Stmt} {ps ks : List Str} {sp : Sp} {E : XK} {p pos : Pos} {kws : List Keyword} {tk : TA}
theorem pe_newKP (G : PromCD X.prog X.w X.K X.mg X.base CX k x q st ps sp) (hr : Room (k + 1) X.A) (hg : Gl X x) (hne : ps.length = 2) (hk1 : ks.length = 1)
    (hb : ∀ (kV doc pm : Value) (an : Option Addr) (cdv ct u w : Value), bindArgs (PySem.W.fnOf "__init__" q (defArgs st) (defBody st) (defScope st) .none kV doc pm an cdv ct) ⟨[u], ks.zip [w]⟩ = pure (ps.zip [u, w]))
    (hx : Passes CX X E) (hkw : PK X kws tk) (hall : (backToKw pos (keywordEach kws X.env)).all (·.1.isSome) = true := by rfl) (hks : (backToKw pos (keywordEach kws X.env)).filterMap (·.1) = ks := by rfl)
    (hdb : (x == ("__debug__" : Str)) = false := by decide) (hpl : ((backTo pos (starEach [] X.env)).any (·.1) || (backToKw pos (keywordEach kws X.env)).any (·.1.isNone)) = false := by rfl) :
    PE X (.Call (.Name x p) [] kws pos) (tNewK sp E tk) := by
  obtain ⟨sp0, fd, F, _, D, hs⟩ := G.ex
  have kb := kb_two hne hb D
  have kn : KBn X.K fd ps 1 ks two1 two1 := ⟨fun s us ws i h1 h2 => kb.to s us ws i (by
    rw [hk1] at h2
    match us, ws, h1, h2 with
    | [_], [_], _, _ => rw [hne]; rfl), kb.rel⟩
  refine ⟨fun pins s σ H Q I h => ?_⟩
  refine wpAny_Call_Name_kw (ld_glob I hg G.mg_ ?_ hdb)
  refine PySem.W.callWith_KW0 (h₀ := X.base) I.ok.mod.kin G.make.kp hall ?_ hpl
  refine thn (hkw.run pos pins s σ H _ I h) fun ws s2 ⟨zs, H2, I2, rz, l2, q2⟩ => ⟨I2.kIn, ?_⟩
  rw [hks]
  refine run_makeK (us := []) (vs := []) G.make F hr kn hx I2 .nil rz rfl (l2.trans hk1.symm) (fun y dy h1 h2 h3 => ?_)
  match zs, l2, q2 with
  | [z], _, q2 => exact hs [z] H2 Q E q2 y dy h1 h2 h3
end
end Sz
/-! a thing against data (the thing may be {}); a list against [] -/
namespace Sz
open PySem PySem.Spec PyProof.Rows L2
end Sz
namespace PySem.SeqAt
open PySem PySem.Spec PyProof.Rows
open MeetsSeq MeetsSeq2 MeetsSeq3 SeqRoads2
theorem sub_int_dict : isSubtype (.type "int") (.type "dict") = pure false := by rw [isSubtype_type]; kernel_rfl
theorem sub_dict_int : isSubtype (.type "dict") (.type "int") = pure false := by rw [isSubtype_type]; kernel_rfl
theorem dict_eq_declines_int (l : Addr) (es : Array DictEntry) (n : Nat) (b : Int) (u : Tok) :
    Meets (Builtin.«dict.__eq__» ⟨[.ref l, .int b u], []⟩) (fun _ R s => s.heap.get? l = some { cls := .type "dict", dict := none, data := .dict es n, slots := #[] } ∧ R (.ok (.ret .notImplemented)) s) :=
  .of_wp fun prog w A R s h => by
    obtain ⟨hp, g, d, tk, os⟩ := s
    obtain ⟨hl, h⟩ := h
    have f1 := sub_int_dict
    wp_walk using AutoSeq1.wpAny_loadPart' hl
    exact ⟨_, rfl, h⟩
theorem int_eq_declines_dict (b : Int) (u : Tok) (l : Addr) (es : Array DictEntry) (n : Nat) :
    Meets (Builtin.«int.__eq__» ⟨[.int b u, .ref l], []⟩) (fun _ R s => s.heap.get? l = some { cls := .type "dict", dict := none, data := .dict es n, slots := #[] } ∧ R (.ok (.ret .notImplemented)) s) :=
  .of_wp fun prog w A R s h => by
    obtain ⟨hp, g, d, tk, os⟩ := s
    obtain ⟨hl, h⟩ := h
    wp_walk using AutoSeq1.wpAny_loadPart' hl, wpAny_load hl
    exact ⟨_, rfl, h⟩
theorem RcAt.dict_int {A : Around} {s : Shared} {l : Addr} {es : Array DictEntry} {n : Nat} (b : Int) (u : Tok) (ho : s.heap.get? l = some { cls := .type "dict", dict := none, data := .dict es n, slots := #[] }) (hu : A.units < cLine) : RcAt A s (.ref l) (.int b u) false := fun prog w E Q h => by
  exact rc_eq_decline_or (k := false) ⟨_, ho, rfl⟩ (typeIs_int s b u) (by decide) sub_int_dict F.slot_dict_eq F.slot_int_eq_refl
    (fun _ hq => call_meets F.slot_dict_eq ⟨_, ho, rfl⟩ F.entry_dict_eq (F.args_dict_eq_2 _ _) (dict_eq_declines_int l es n b u) ⟨ho, hq⟩)
    (fun _ hq => call_meets F.slot_int_eq_refl (typeIs_int s b u) F.entry_int_eq (F.args_int_eq_2 _ _) (int_eq_declines_dict b u l es n) ⟨ho, hq⟩)
    (fun _ hq => wpAny_of_eq (rfl : isSame (.ref l) (.int b u) = pure false) hq) (.inr hu) h
end PySem.SeqAt
namespace Sz
open PySem PySem.Spec PyProof.Rows L2
/-- data, or {}, against an int -/
def rEqDE (K : PySem.W.Frag) : R2 := fun x y H Q => (∃ d e, Dp K H x d ∧ Dp K H y e ∧ SeqAt.shaped d = true ∧ SeqAt.shaped e = true ∧ Q (.bl (PyData.eqv d e)) H) ∨ ∃ a i, x = .ref a ∧ H a = some (.dK []) ∧ y = .int i ∧ Q (.bl false) H
section
variable {X : Cx}
theorem op_eqDE (hu : X.A.units + 64 < cLine) : OpR X (compareOp .Eq) (rEqDE X.K) := by
  intro pins s σ H x y v u Q I rx ry h
  rcases h with h | ⟨a, i, rfl, h, rfl, q⟩
  · exact op_eqD hu pins s σ H x y v u Q I rx ry h
  · cases (show v = Value.ref a from rx)
    obtain ⟨t, rfl⟩ := (show ∃ t, u = Value.int i t from ry)
    obtain ⟨_, ns, vs, kv, hd⟩ : ([] : List (Key × V)).length ≤ sizeLine ∧ (a == sysModules) = false ∧ ∃ vs, KV [] vs ∧ s.heap.DictOf (mixKind X.prog X.w) a vs := I.hok a _ h
    obtain ⟨⟨cls, dd, data, sl⟩, es, ep, e1, ⟨f1, f2, f3⟩, e3, _⟩ := hd
    simp only at f1 f2 f3 e3
    subst f1 f2 f3 e3
    exact SeqAt.RcAt.dict_int i t e1 (by omega) X.prog X.w _ _ ⟨.bl false, H, I, rfl, q⟩
/-- xs != [] -/
def rNeE (K : PySem.W.Frag) : R2 := fun x y H Q => ∃ (a b : Addr) (xs : List V), x = .ref a ∧ y = .ref b ∧ SqL K H a xs ∧ SqL K H b [] ∧ Q (.bl (!xs.isEmpty)) H
theorem op_neE (hu : X.A.units + 64 < cLine) : OpR X (compareOp .NotEq) (rNeE X.K) := by
  intro pins s σ H x y v u Q I rx ry h
  obtain ⟨a, b, xs, rfl, rfl, ha, hb, q⟩ := h
  cases xs with
  | nil => exact op_neL hu pins s σ H _ _ v u Q I rx ry ⟨1, by decide, ⟨a, b, [], [], rfl, rfl, ha, hb, .nil⟩, q⟩
  | cons x xs =>
    cases (show v = Value.ref a from rx)
    cases (show u = Value.ref b from ry)
    obtain ⟨us, r1, p1, _⟩ := I.list ha
    obtain ⟨ws, r2, p2, _⟩ := I.list hb
    have step := SeqAt.RcNeAt.lists_lengths (A := X.A) p1.isList p2.isList (by
      rw [List.size_toArray, List.size_toArray, ← r1.length, ← r2.length]
      simp) (by omega)
    exact step X.prog X.w _ _ ⟨.bl true, H, I, rfl, q⟩
/-- xs == [] -/
def rEqE (K : PySem.W.Frag) : R2 := fun x y H Q => ∃ (a b : Addr) (xs : List V), x = .ref a ∧ y = .ref b ∧ SqL K H a xs ∧ SqL K H b [] ∧ Q (.bl xs.isEmpty) H
theorem op_eqE (hu : X.A.units + 64 < cLine) : OpR X (compareOp .Eq) (rEqE X.K) := by
  intro pins s σ H x y v u Q I rx ry h
  obtain ⟨a, b, xs, rfl, rfl, ha, hb, q⟩ := h
  cases (show v = Value.ref a from rx)
  cases (show u = Value.ref b from ry)
  obtain ⟨us, r1, p1, _⟩ := I.list ha
  obtain ⟨ws, r2, p2, _⟩ := I.list hb
  cases xs with
  | nil =>
    cases r1
    cases r2
    have step := SeqAt.RcAt.lists (A := X.A) (e := fun _ => true) p1.isList p2.isList rfl (by omega) (fun j h1 h2 => absurd h1 (by simp))
    exact step X.prog X.w _ _ ⟨.bl true, H, I, rfl, q⟩
  | cons x xs =>
    have step := SeqAt.RcAt.lists_lengths (A := X.A) p1.isList p2.isList (by
      rw [List.size_toArray, List.size_toArray, ← r1.length, ← r2.length]
      simp) (by omega)
    exact step X.prog X.w _ _ ⟨.bl false, H, I, rfl, q⟩
end
end Sz
/-! repr(t) of a tuple in which instances with an own __repr__ stand, at any depth -/
namespace Sz
open PySem PySem.Spec PyProof.Rows L2
/-- repr at a place within a container, in each state that grew out of H0: the text t -/
def RpI (X : Cx) (n : Nat) (Z : List Addr) (H0 : Hp) (v : V) (t : Str) : Prop :=
  ∀ (A : Around) (g : List Code) (b : Nat) (pins : List (Addr × Obj)) (s : Shared) (σ : L2.St) (H : Hp) (u : Value), Sub X n A → A.guards = some g → (∀ z ∈ Z, Clear g z) → b + t.length ≤ sizeLine → Ext H0 H → Inv X pins σ H s → RelV v u →
    wpAny (model X.prog X.w) A (pyReprUnder b u) (fun r s' => r = t ∧ ∃ H', Inv X pins σ H' s' ∧ Ext H H') X.xe s
section
variable {X : Cx} {CX : CXT} {k n : Nat} {C : Str} {ps : List Str} {sp : Sp} {E : XK} {Z : List Addr} {H0 : Hp} {v : V} {t : Str}
theorem RpI.is (h : ∀ u, RelV v u → ReprIs X.prog X.w u t) : RpI X n Z H0 v t := fun A _ b _ s _ H u _ _ _ hb _ I r => h u r b hb A X.xe s _ fun tk => ⟨rfl, H, I.tok _, Ext.rfl'⟩
theorem RpI.str {y : Str} (h : (reprText y).length ≤ sizeLine) : RpI X n Z H0 (.str y) (reprText y) := .is fun u r => by
  obtain ⟨tk, rfl⟩ := (show ∃ tk, u = Value.str y tk from r)
  exact ReprIs.str y tk h
theorem RpI.int {i : Int} (h : i.natAbs.log2 < 1920) : RpI X n Z H0 (.int i) (toString i) := .is fun u r => by
  obtain ⟨tk, rfl⟩ := (show ∃ tk, u = Value.int i tk from r)
  exact ReprIs.int tk h
theorem RpI.more {Z' : List Addr} (h : RpI X n Z H0 v t) (s : ∀ z ∈ Z, z ∈ Z') : RpI X n Z' H0 v t := fun A g b pins s0 σ H u sb hg hc => h A g b pins s0 σ H u sb hg fun z hz => hc z (s z hz)
theorem RpI.lev {m : Nat} (h : RpI X n Z H0 v t) (l : n ≤ m) : RpI X m Z H0 v t := fun A g b pins s0 σ H u sb => h A g b pins s0 σ H u (sb.mono l)
theorem RpI.ins (G : PromM X.prog X.w X.K X.mg X.base CX n C "__repr__" ps sp) (hx : Passes CX X E) {a dx : Addr} {fs : List (Str × V)} (hp : H0 a = some (.ins (He.ga X.K C) dx fs))
    (h : ∀ H, Ext H0 H → sp [.ref a] H (fun z H2 => z = .str t ∧ Ext H H2) E) : RpI X n Z H0 (.ref a) t := by
  intro A g b pins s σ H u sb hg hc hb e I r
  obtain rfl : u = Value.ref a := r
  obtain ⟨m1, O1, _⟩ := ins_get I.hok (e _ _ hp)
  obtain ⟨od1, J1, _⟩ := O1.look
  have KI := I.kIn
  refine wpAny_pyReprUnder_ref (by omega) ?_
  unfold pyReprObjUnder pyReprObjBy
  refine wpAny_bind (wpAny_cRoomFor sb.room.units0 ?_)
  refine wpAny_bind (wpAny_bind (J1.type.here ((PySem.W.looks_findIn KI G.me.at_).here ?_)))
  show wpAny _ _ (if (some (Value.ref (He.ma X.K (He.ga X.K C) "__repr__"))).isNone = true then _ else _) _ _ _
  rw [if_neg (by simp)]
  have fin : wpAny (model X.prog X.w) A (call (.ref (He.ma X.K (He.ga X.K C) "__repr__")) [.ref a]) (fun z s' => ∃ tk, z = .str t tk ∧ ∃ H', Inv X pins σ H' s' ∧ Ext H H') X.xe s := by
    refine wpAny_mono (run_own G hx (A := A) ⟨sb.room, sb.fr⟩ (vs := [.ref a]) (us := [.ref a]) I (.cons rfl .nil) (h H e)) (fun z s' q => ?_) fun _ _ y => y
    obtain ⟨z0, H', I', rz, rfl, ex⟩ := q
    obtain ⟨tk, rfl⟩ := (show ∃ tk, z = Value.str t tk from rz)
    exact ⟨tk, rfl, H', I', ex⟩
  refine wpAny_bind (wpAny_mono (Q := fun o s' => ∃ tk, o = some (.str t tk) ∧ ∃ H', Inv X pins σ H' s' ∧ Ext H H') (E := X.xe) ?_ (fun o s' q => ?_) fun _ _ y => y)
  · have fin2 : wpAny (model X.prog X.w) A (call (.ref (He.ma X.K (He.ga X.K C) "__repr__")) ([.ref a] ++ []) >>= fun z => pure (some z)) (fun o s' => ∃ tk, o = some (.str t tk) ∧ ∃ H', Inv X pins σ H' s' ∧ Ext H H') X.xe s :=
      wpAny_bind (wpAny_mono fin (fun z s' q => wpAny_pure (by obtain ⟨tk, rfl, q⟩ := q; exact ⟨tk, rfl, q⟩)) fun _ _ y => y)
    simp only [callSpecialIfBoundBy?, bindSpecialIfBound?]
    refine wpAny_holding (wpAny_bind (wpAny_bind (wpAny_bind (J1.type.here ((PySem.W.looks_findIn KI G.me.at_).here ?_)))))
    refine wpAny_bind (wpAny_askSetting (wpAny_ite ?_))
    split
    · exact wpAny_bind ((PySem.W.bind_fn KI _ (beq_iff_eq.mp G.me.fn)).here (wpAny_pure (by exact fin2)))
    · exact wpAny_tryCatch (wpAny_bind ((PySem.W.bind_fn KI _ (beq_iff_eq.mp G.me.fn)).here (wpAny_pure (by exact fin2))))
  · obtain ⟨tk, rfl, q⟩ := q
    exact wpAny_bind (wpAny_isInstance (T := "str") (b := true) rfl isSubtype_str_str (wpAny_pure ⟨t, tk, rfl, rfl, q⟩))
/-- item by item -/
def RpAll (X : Cx) (n : Nat) (Z : List Addr) (H0 : Hp) (xs : List V) (ts : List Str) : Prop := xs.length = ts.length ∧ ∀ (i : Nat) x y, xs[i]? = some x → ts[i]? = some y → RpI X n Z H0 x y
theorem RpAll.nil : RpAll X n Z H0 [] [] := ⟨rfl, fun i x y h _ => by simp at h⟩
theorem RpAll.cons {x : V} {y : Str} {xs : List V} {ts : List Str} (h : RpI X n Z H0 x y) (r : RpAll X n Z H0 xs ts) : RpAll X n Z H0 (x :: xs) (y :: ts) := by
  refine ⟨by rw [List.length_cons, List.length_cons, r.1], fun i a b h1 h2 => ?_⟩
  cases i with
  | zero =>
    obtain rfl : x = a := by simpa using h1
    obtain rfl : y = b := by simpa using h2
    exact h
  | succ i => exact r.2 i a b (by simpa using h1) (by simpa using h2)
theorem rp_fold {A : Around} {g : List Code} {pins : List (Addr × Obj)} {σ : L2.St} (sb : Sub X n A) (hg : A.guards = some g) (hc : ∀ z ∈ Z, Clear g z) : ∀ (its : List Value) (xs : List V) (ts : List Str) (acc : Array Str) (m : Nat) (s : Shared) (H : Hp), Vals xs its → RpAll X n Z H0 xs ts → m + piled ts ≤ sizeLine → Ext H0 H → Inv X pins σ H s →
    wpAny (model X.prog X.w) A (forIn its (⟨acc, m⟩ : Array Str × Nat) tupBody) (fun r s' => r = ⟨acc ++ ts.toArray, m + piled ts⟩ ∧ ∃ H', Inv X pins σ H' s' ∧ Ext H H') X.xe s := by
  intro its
  induction its with
  | nil =>
    intro xs ts acc m s H r p _ _ I
    cases r
    have e : ts = [] := List.eq_nil_of_length_eq_zero (by rw [← p.1]; rfl)
    subst e
    simp only [List.forIn_nil]
    exact wpAny_pure ⟨by simp [piled], H, I, Ext.rfl'⟩
  | cons u its ih =>
    intro xs ts acc m s H r p hm ex I
    cases r with
    | @cons x _ xs _ rx rr =>
    cases ts with
    | nil => exact absurd p.1 (by simp)
    | cons y ts =>
    rw [piled_cons] at hm
    have hx := p.2 0 x y rfl rfl
    have hr : RpAll X n Z H0 xs ts := ⟨by have := p.1; simpa using this, fun i a b h1 h2 => p.2 (i + 1) a b (by simpa using h1) (by simpa using h2)⟩
    rw [List.forIn_cons]
    refine wpAny_bind (wpAny_bind (wpAny_mono (hx A g (m + 1) pins s σ H u sb hg hc (by omega) ex I rx) (fun q s1 z => ?_) fun _ _ y => y))
    obtain ⟨rfl, H1, I1, e1⟩ := z
    refine wpAny_pure ?_
    refine wpAny_mono (ih xs ts (acc.push q) (m + (q.length + 2)) s1 H1 rr hr (by omega) (ex.trans e1) I1) (fun q2 s2 z => ?_) fun _ _ y => y
    obtain ⟨rfl, H2, I2, e2⟩ := z
    refine ⟨?_, H2, I2, e1.trans e2⟩
    rw [piled_cons, show m + (q.length + 2) + piled ts = m + (q.length + 2 + piled ts) by omega]
    simp
theorem rp_body {A : Around} {g : List Code} {b : Nat} {a : Addr} {rest : List Value} {id : String} {pins : List (Addr × Obj)} {s : Shared} {σ : L2.St} {H : Hp} {xs : List V} {ts : List Str} {R : Result → Shared → Prop}
    (hcg : (Code.builtin id ⟨.ref a :: rest, []⟩).isGuard = true) (sb : Sub X n (A.under (.builtin id ⟨.ref a :: rest, []⟩))) (hg : A.guards = some g) (hc : ∀ z ∈ a :: Z, Clear g z) (hna : a ∉ Z) (ha : SqT X.K H0 a xs) (p : RpAll X n Z H0 xs ts)
    (hb : b + (tupleText ts).length ≤ sizeLine) (ex : Ext H0 H) (I : Inv X pins σ H s) (fin : ∀ u s', (∃ H', Inv X pins σ H' s' ∧ Ext H H') → R (.ok (.ret (.str (tupleText ts) u))) s') (fe : ∀ e s', X.xe e s' → R (.error e) s') :
    wpOwn (model X.prog X.w) A (.builtin id ⟨.ref a :: rest, []⟩) (Builtin.tupleReprAt b ⟨[.ref a], []⟩) (fun f s' => match f with | .done f => R (.ok f) s' | .again c => c.quiet = true ∧ codeAny (model X.prog X.w) A c R s') (fun e s' => R (.error e) s') s := by
  obtain ⟨its, r, ⟨o, ho, hcl, na, hd⟩, _⟩ := I.tuple (ha.ext ex)
  have pl := piled_le_tupleText ts
  have lts : ts.length = its.length := by rw [← p.1, r.length]
  rw [tuple_repr_tree] ; rw [tupleReprUnderWay_eq]
  refine wpOwn_bind (wpOwn_stackTailAny hg (tupGuardF_off _) (tupGuardF_pos _) ?_)
  have no : (g.any fun c => tupGuardF (.ref a) (c, default)) = false := List.any_eq_false.mpr fun c hm => by
    rw [tupGuardF_of_clear (hc a (.head _)) c hm] ; decide
  rw [no]
  refine wpOwn_of_wpAny ?_
  show wpAny _ _ (tupleReprRest b (.ref a)) _ _ s
  unfold tupleReprRest ; unfold Builtin.Tuple.tupleItemsOf
  refine wpAny_bind (wpAny_bind (wpAny_seqItems ho hd (wpAny_pure ?_)))
  rw [← Array.forIn_toList]
  refine wpAny_bind (wpAny_mono (rp_fold (H0 := H0) (Z := Z) sb (guards_under_guard hcg hg) (fun z hz => (hc z (.tail _ hz)).cons (a := a) fun e => hna (e ▸ hz)) its.toArray.toList xs ts #[] b s H (by simpa using r) p (by omega) ex I) (fun q s' z => ?_) fun e s' h => fe e s' h)
  obtain ⟨rfl, H', I', e'⟩ := z
  refine wpAny_bind (wpAny_mkStr (wpAny_pure ?_) (by simpa [tupleText, lts] using (show (tupleText ts).length ≤ sizeLine by omega)))
  have z := fin s'.toks { s' with toks := s'.toks + 1 } ⟨H', I'.tok _, e'⟩
  simpa [tupleText, lts] using z
theorem sub_rp {A : Around} (sb : Sub X (n + 1) A) (a : Addr) (rest : List Value) (id : String) (hd : (A.under (.builtin id ⟨.ref a :: rest, []⟩)).handled = A.handled) (hf : (A.under (.builtin id ⟨.ref a :: rest, []⟩)).frames = A.frames)
    (hp : (A.under (.builtin id ⟨.ref a :: rest, []⟩)).depth ≤ A.depth + 1) (hu : (A.under (.builtin id ⟨.ref a :: rest, []⟩)).units = A.units + 1) : Sub X n (A.under (.builtin id ⟨.ref a :: rest, []⟩)) :=
  ⟨⟨by rw [hd]; exact sb.room.hd, by have := sb.room.dp; omega, by have := sb.room.un; omega⟩, by rw [hf]; exact sb.fr⟩
theorem RpI.tup {a : Addr} {xs : List V} {ts : List Str} (ha : SqT X.K H0 a xs) (hna : a ∉ Z) (p : RpAll X n Z H0 xs ts) : RpI X (n + 1) (a :: Z) H0 (.ref a) (tupleText ts) := by
  intro A g b pins s σ H u sb hg hc hb e I r
  obtain rfl : u = Value.ref a := r
  obtain ⟨its, rv, ⟨o, ho, hcl, na, hd⟩, _⟩ := I.tuple (ha.ext e)
  refine wpAny_pyReprUnder_ref (by omega) ?_
  refine wpAny_pyReprObjUnder_twin (twin := "tuple.__repr__.under") ⟨o, ho, hcl⟩ F.slot_tuple_repr rfl sb.room.units0 ?_
  refine call_twin_own (F.quiet_tuple_repr_under _) F.entry_tuple_repr_under F.check_tuple_repr_under ⟨o, ho, hcl⟩ F.slot_tuple_repr (F.args_tuple_repr_1 _) ?_
  refine rp_body (R := callEnd _ _) (isGuard_tuple_repr_under _) (sub_rp sb a _ _ ?_ ?_ ?_ (units_under_tuple_repr_under _ _)) hg hc hna ha p hb e I (fun u s' q => ?_) (fun e s' q => q)
  · rfl
  · rfl
  · first | exact Nat.le_refl _ | exact Nat.le_succ _ | simp [Around.under, Code.weight, Code.isCreation, Code.isGuard, Code.isCaller, Code.frames, Code.isFrame, guardIds]
  · exact ⟨⟨_, _, rfl⟩, _, _, rfl, rfl, q⟩
theorem cr_reprT (gd : X.A.guards = some []) (hr : Room (n + 2) X.A) : CallR X (.builtin "repr") (fun xs H Q => ∃ (a : Addr) (ys : List V) (ts : List Str) (Z : List Addr), xs = [.ref a] ∧ SqT X.K H a ys ∧ a ∉ Z ∧ RpAll X n Z H ys ts ∧ (tupleText ts).length ≤ sizeLine ∧ ∀ H', Ext H H' → Q (.str (tupleText ts)) H') := by
  intro pins s σ H xs us Q I r h
  obtain ⟨a, ys, ts, Z, rfl, ha, hna, p, hl, q⟩ := h
  obtain ⟨u, rfl, ru⟩ := vals1 r
  obtain rfl : u = Value.ref a := ru
  obtain ⟨its, rv, ⟨o, ho, hcl, na, hd⟩, _⟩ := I.tuple ha
  have sb : Sub X (n + 1) X.A.in1 := ⟨hr.in1, rfl⟩
  refine call_repr_slot (by have := hr.un; omega) ⟨o, ho, hcl⟩ F.slot_tuple_repr ?_
  refine wpAny_call (codeAny_call_builtin_own (Code.quiet_builtin _ (by decide +kernel)) F.entry_tuple_repr (F.slot_tuple_repr.check _ _ _ _ _ _ _ _ ⟨o, ho, hcl⟩ (F.args_tuple_repr_1 _) ?_))
  refine rp_body (R := callEnd _ _) (b := 0) (isGuard_tuple_repr _) (sub_rp sb a _ _ ?_ ?_ ?_ (units_under_tuple_repr _ _)) (show X.A.in1.guards = _ from gd) (fun z hz => Clear.nil z) hna ha p (by omega) Ext.rfl' I (fun u s' z => ?_) (fun e s' q => q)
  · rfl
  · rfl
  · first | exact Nat.le_refl _ | exact Nat.le_succ _ | simp [Around.under, Code.weight, Code.isCreation, Code.isGuard, Code.isCaller, Code.frames, Code.isFrame, guardIds]
  · obtain ⟨H', I', e⟩ := z
    exact ⟨_, _, rfl, .str _, H', I', ⟨_, rfl⟩, q H' e⟩
end
end Sz
/-! == and != of instances of a class without own ones -/
namespace Sz
open PySem PySem.Spec PyProof.Rows L2
structure CmpI (K : PySem.W.Frag) (C : Addr) : Prop where
  eq : PySem.W.findIn K (.ref C) "__eq__" = some (some (.builtin "object.__eq__"))
  ne : PySem.W.findIn K (.ref C) "__ne__" = some (some (.builtin "object.__ne__"))
  m : PySem.W.mroIn K C (.type "object") = some true
def cmpIB (K : PySem.W.Frag) (C : Addr) : Bool := He.eqO (PySem.W.findIn K (.ref C) "__eq__") (some (some (.builtin "object.__eq__"))) && (He.eqO (PySem.W.findIn K (.ref C) "__ne__") (some (some (.builtin "object.__ne__"))) && decide (PySem.W.mroIn K C (.type "object") = some true))
theorem cmpI_ok {K : PySem.W.Frag} {C : Addr} (h : cmpIB K C = true) : CmpI K C := by
  obtain ⟨h1, h⟩ := He.ba h
  obtain ⟨h2, h3⟩ := He.ba h
  exact ⟨He.eqO_ok h1, He.eqO_ok h2, of_decide_eq_true h3⟩
section
variable {M : Model} {prog : Program} {w : World} {A : Around} {E : Value → Shared → Prop} {s : Shared} {K : PySem.W.Frag} {x y C : Addr} {ox oy : Obj} {od od' : Option Obj}
theorem nt_of (I : PySem.W.InstAt s.heap x ox C od) : ox.cls ≠ .type "tuple" := by
  rw [I.cls]
  exact fun e => by cases e
theorem oe_same {Q : Value → Shared → Prop} (X : K.In s.heap) (I : PySem.W.InstAt s.heap x ox C od) (F0 : CmpI K C) (hq : Q (.bool true) s) : wpAny (model prog w) A (call (.builtin "object.__eq__") [.ref x, .ref x]) Q E s :=
  wpAny_call (codeAny_call_builtin F.cmp_object.eq.plain F.cmpEntry_eq (PySem.W.check_slot F.cmpKind_eq F.cmpSplit_eq (I.type.andThen (PySem.W.looks_mroIn X F0.m)) (F.cmpArgs_eq _ _) (objEq_entry_same hq)))
theorem oe_other {Q : Value → Shared → Prop} (X : K.In s.heap) (I : PySem.W.InstAt s.heap x ox C od) (J : PySem.W.InstAt s.heap y oy C od') (n : x ≠ y) (F0 : CmpI K C) (hq : Q .notImplemented s) : wpAny (model prog w) A (call (.builtin "object.__eq__") [.ref x, .ref y]) Q E s :=
  wpAny_call (codeAny_call_builtin F.cmp_object.eq.plain F.cmpEntry_eq (PySem.W.check_slot F.cmpKind_eq F.cmpSplit_eq (I.type.andThen (PySem.W.looks_mroIn X F0.m)) (F.cmpArgs_eq _ _) (objEq_entry_other n I.at_ J.at_ (nt_of I) hq)))
theorem oe_str {z : Str} {t : Tok} {Q : Value → Shared → Prop} (X : K.In s.heap) (I : PySem.W.InstAt s.heap x ox C od) (F0 : CmpI K C) (hq : Q .notImplemented s) : wpAny (model prog w) A (call (.builtin "object.__eq__") [.ref x, .str z t]) Q E s := by
  refine wpAny_call (codeAny_call_builtin F.cmp_object.eq.plain F.cmpEntry_eq (PySem.W.check_slot F.cmpKind_eq F.cmpSplit_eq (I.type.andThen (PySem.W.looks_mroIn X F0.m)) (F.cmpArgs_eq _ _) ?_))
  unfold Builtin.«object.__eq__»
  have e : ∀ {R : Bool → Shared → Prop} {M : Model} {A : Around} {E : Value → Shared → Prop}, R false s → wpAny M A (isSame (.ref x) (.str z t)) R E s := fun h => wpAny_of_eq (rfl : isSame (.ref x) (.str z t) = pure false) h
  repeat (first | with_reducible refine e ?_ | wp_step)
  exact hq
theorem ib_gen {nm : Str} {id : String} {args : List Value} {Q : Option Value → Shared → Prop} (X : K.In s.heap) (I : PySem.W.InstAt s.heap x ox C od) (hs : PySem.W.findIn K (.ref C) nm = some (some (.builtin id))) (S : Slot "object" nm id)
    (h : wpAny M A (call (.builtin id) (.ref x :: args)) (fun v => Q (some v)) E s) : wpAny M A (callSpecialIfBound? (.ref x) nm args) Q E s := by
  simp only [callSpecialIfBound?, bindSpecialIfBound?]
  refine wpAny_holding (wpAny_bind (wpAny_bind (wpAny_bind (I.type.here ((PySem.W.looks_findIn X hs).here ?_)))))
  refine wpAny_bind (wpAny_askSetting (wpAny_ite ?_))
  have fin : wpAny M A (call (.builtin id) ([.ref x] ++ args) >>= fun v => pure (some v)) Q E s := wpAny_bind (wpAny_mono h (fun _ _ q => wpAny_pure q) fun _ _ q => q)
  split
  · exact wpAny_bind (wpAny_of_eq (S.bind _) (wpAny_pure (by exact fin)))
  · exact wpAny_tryCatch (wpAny_bind (wpAny_of_eq (S.bind _) (wpAny_pure (by exact fin))))
theorem tc_same {Q : Option Value → Shared → Prop} (X : K.In s.heap) (I : PySem.W.InstAt s.heap x ox C od) (F0 : CmpI K C) (hq : Q (some (.bool true)) s) : wpAny (model prog w) A (tryCompare (.ref x) "__eq__" (.ref x)) Q E s := by
  unfold tryCompare
  exact wpAny_bind (ib_gen X I F0.eq F.cmp_object.eq (oe_same X I F0 (wpAny_pure hq)))
theorem tc_other {Q : Option Value → Shared → Prop} (X : K.In s.heap) (I : PySem.W.InstAt s.heap x ox C od) (J : PySem.W.InstAt s.heap y oy C od') (n : x ≠ y) (F0 : CmpI K C) (hq : Q none s) : wpAny (model prog w) A (tryCompare (.ref x) "__eq__" (.ref y)) Q E s := by
  unfold tryCompare
  exact wpAny_bind (ib_gen X I F0.eq F.cmp_object.eq (oe_other X I J n F0 (wpAny_pure hq)))
theorem tn_same {Q : Option Value → Shared → Prop} (hu : A.units + 1 < cLine) (X : K.In s.heap) (I : PySem.W.InstAt s.heap x ox C od) (F0 : CmpI K C) (hq : Q (some (.bool false)) s) : wpAny (model prog w) A (tryCompare (.ref x) "__ne__" (.ref x)) Q E s := by
  unfold tryCompare
  refine wpAny_bind (ib_gen X I F0.ne F.cmp_object.ne (wpAny_call (codeAny_call_builtin F.cmp_object.ne.plain F.cmpEntry_ne (PySem.W.check_slot F.cmpKind_ne F.cmpSplit_ne (I.type.andThen (PySem.W.looks_mroIn X F0.m)) (F.cmpArgs_ne _ _) ?_))))
  unfold Builtin.«object.__ne__»
  have hu1 : A.in1.units < cLine := hu
  have e : ∀ {Q' : Option Value → Shared → Prop} {E' : Value → Shared → Prop}, Q' (some (.bool true)) s → wpAny (model prog w) A.in1 (callSpecialIfBound? (.ref x) "__eq__" [.ref x]) Q' E' s := fun h => ib_gen X I F0.eq F.cmp_object.eq (oe_same X I F0 h)
  repeat (first | with_reducible refine wpAny_cRoomFor hu1 ?_ | with_reducible refine e ?_ | wp_step)
  exact hq
theorem tn_other {Q : Option Value → Shared → Prop} (hu : A.units + 1 < cLine) (X : K.In s.heap) (I : PySem.W.InstAt s.heap x ox C od) (J : PySem.W.InstAt s.heap y oy C od') (n : x ≠ y) (F0 : CmpI K C) (hq : Q none s) : wpAny (model prog w) A (tryCompare (.ref x) "__ne__" (.ref y)) Q E s := by
  unfold tryCompare
  refine wpAny_bind (ib_gen X I F0.ne F.cmp_object.ne (wpAny_call (codeAny_call_builtin F.cmp_object.ne.plain F.cmpEntry_ne (PySem.W.check_slot F.cmpKind_ne F.cmpSplit_ne (I.type.andThen (PySem.W.looks_mroIn X F0.m)) (F.cmpArgs_ne _ _) ?_))))
  unfold Builtin.«object.__ne__»
  have hu1 : A.in1.units < cLine := hu
  have e : ∀ {Q' : Option Value → Shared → Prop} {E' : Value → Shared → Prop}, Q' (some .notImplemented) s → wpAny (model prog w) A.in1 (callSpecialIfBound? (.ref x) "__eq__" [.ref y]) Q' E' s := fun h => ib_gen X I F0.eq F.cmp_object.eq (oe_other X I J n F0 h)
  repeat (first | with_reducible refine wpAny_cRoomFor hu1 ?_ | with_reducible refine e ?_ | wp_step)
  exact hq
theorem rc_same {Q : Value → Shared → Prop} (hu : A.units < cLine) (X : K.In s.heap) (I : PySem.W.InstAt s.heap x ox C od) (F0 : CmpI K C) (hq : Q (.bool true) s) : wpAny (model prog w) A (richCompare .Eq (.ref x) (.ref x)) Q E s := by
  simp only [richCompare, cmpInfo_Eq, oneThing_ref]
  refine wpAny_holding (wpAny_bind (wpAny_cRoomFor hu ?_))
  refine wpAny_bind (I.type.here (wpAny_bind (I.type.here ?_)))
  rw [if_neg (by simp)]
  repeat (first | with_reducible refine tc_same X I F0 ?_ | wp_step)
  exact hq
theorem rc_other {Q : Value → Shared → Prop} (hu : A.units < cLine) (X : K.In s.heap) (I : PySem.W.InstAt s.heap x ox C od) (J : PySem.W.InstAt s.heap y oy C od') (n : x ≠ y) (F0 : CmpI K C) (hq : Q (.bool false) s) : wpAny (model prog w) A (richCompare .Eq (.ref x) (.ref y)) Q E s := by
  simp only [richCompare, cmpInfo_Eq, oneThing_ref]
  refine wpAny_holding (wpAny_bind (wpAny_cRoomFor hu ?_))
  refine wpAny_bind (I.type.here (wpAny_bind (J.type.here ?_)))
  rw [if_neg (by simp)]
  repeat (first | with_reducible refine tc_other X I J n F0 ?_ | with_reducible refine tc_other X J I n.symm F0 ?_ | with_reducible refine wpAny_isSame_ref_other n I.at_ J.at_ (nt_of I) ?_ | wp_step)
  exact hq
theorem rn_same {Q : Value → Shared → Prop} (hu : A.units + 1 < cLine) (X : K.In s.heap) (I : PySem.W.InstAt s.heap x ox C od) (F0 : CmpI K C) (hq : Q (.bool false) s) : wpAny (model prog w) A (richCompare .NotEq (.ref x) (.ref x)) Q E s := by
  have hu0 : A.units < cLine := by omega
  simp only [richCompare, cmpInfo_NotEq, oneThing_ref]
  refine wpAny_holding (wpAny_bind (wpAny_cRoomFor hu0 ?_))
  refine wpAny_bind (I.type.here (wpAny_bind (I.type.here ?_)))
  rw [if_neg (by simp)]
  repeat (first | with_reducible refine tn_same hu X I F0 ?_ | wp_step)
  exact hq
theorem rn_other {Q : Value → Shared → Prop} (hu : A.units + 1 < cLine) (X : K.In s.heap) (I : PySem.W.InstAt s.heap x ox C od) (J : PySem.W.InstAt s.heap y oy C od') (n : x ≠ y) (F0 : CmpI K C) (hq : Q (.bool true) s) : wpAny (model prog w) A (richCompare .NotEq (.ref x) (.ref y)) Q E s := by
  have hu0 : A.units < cLine := by omega
  simp only [richCompare, cmpInfo_NotEq, oneThing_ref]
  refine wpAny_holding (wpAny_bind (wpAny_cRoomFor hu0 ?_))
  refine wpAny_bind (I.type.here (wpAny_bind (J.type.here ?_)))
  rw [if_neg (by simp)]
  repeat (first | with_reducible refine tn_other hu X I J n F0 ?_ | with_reducible refine tn_other hu X J I n.symm F0 ?_ | with_reducible refine wpAny_isSame_ref_other n I.at_ J.at_ (nt_of I) ?_ | wp_step)
  exact hq
theorem sub_strT : PySem.W.subIn K (.type "str") (.ref C) = some false := by
  have e : fastBuiltinMro "str" = some [.type "str", .type "object"] := by decide +kernel
  show (fastBuiltinMro "str").map (·.contains (.ref C)) = some false
  rw [e]
  first
    | rfl
    | simp
theorem asStr_no {M : Model} {A : Around} {E : Value → Shared → Prop} {R : Option Str → Shared → Prop} (hx : s.heap.get? x = some ox) (hd : ∀ a b, ox.data ≠ .prim (.str a b)) (h : R none s) : wpAny M A (asStr? (.ref x)) R E s := by
  unfold asStr?
  refine wpAny_bind (wpAny_load hx ?_)
  split
  · rename_i a b e
    exact absurd e (hd a b)
  · exact wpAny_pure h
theorem str_eq_call {z : Str} {t : Tok} {Q : Value → Shared → Prop} (hx : s.heap.get? x = some ox) (hd : ∀ a b, ox.data ≠ .prim (.str a b)) (hq : Q .notImplemented s) : wpAny (model prog w) A (call (.builtin "str.__eq__") [.str z t, .ref x]) Q E s := by
  refine GQ.call_here F.slot_str_eq_refl (typeIs_str s z t) F.entry_str_eq (F.args_str_eq_2 _ _) ?_
  have e : ∀ {M : Model} {A : Around} {E : Value → Shared → Prop} {R : Option Str → Shared → Prop}, R none s → wpAny M A (asStr? (.ref x)) R E s := fun h => asStr_no hx hd h
  obtain ⟨hp, g, d, tk, os⟩ := s
  repeat (first | with_reducible refine e ?_ | wp_step)
  split
  · rename_i a b e2
    exact absurd e2 (hd a b)
  · repeat wp_step
    exact hq
theorem rc_str {z : Str} {t : Tok} {Q : Value → Shared → Prop} (hu : A.units < cLine) (X : K.In s.heap) (I : PySem.W.InstAt s.heap x ox C od) (F0 : CmpI K C) (hd : ∀ a b, ox.data ≠ .prim (.str a b)) (hq : Q (.bool false) s) : wpAny (model prog w) A (richCompare .Eq (.ref x) (.str z t)) Q E s := by
  have one : wpAny (model prog w) A (tryCompare (.ref x) "__eq__" (.str z t)) (fun r s' => r = none ∧ s' = s) E s := by
    unfold tryCompare
    exact wpAny_bind (ib_gen X I F0.eq F.cmp_object.eq (oe_str X I F0 (wpAny_pure ⟨rfl, rfl⟩)))
  have two : wpAny (model prog w) A (tryCompare (.str z t) "__eq__" (.ref x)) (fun r s' => r = none ∧ s' = s) E s :=
    wpAny_tryCompare_declines (typeIs_str s z t) F.slot_str_eq_refl (str_eq_call I.at_ hd ⟨rfl, rfl, rfl⟩)
  simp only [richCompare, cmpInfo_Eq, oneThing_ref]
  refine wpAny_holding (wpAny_bind (wpAny_cRoomFor hu ?_))
  refine wpAny_bind (I.type.here ?_)
  refine wpAny_bind (wpAny_typeOf (typeIs_str s z t) ?_)
  split
  · refine wpAny_bind ((PySem.W.looks_subIn X sub_strT).here ?_)
    simp only [Bool.false_eq_true, if_false, Bool.not_false, if_true]
    refine wpAny_bind (m := tryCompare (.ref x) _ (.str z t)) (wpAny_mono one (fun r s1 q => ?_) fun _ _ q => q)
    obtain ⟨rfl, rfl⟩ := q
    refine wpAny_bind (m := tryCompare (.str z t) _ (.ref x)) (wpAny_mono two (fun r s1 q => ?_) fun _ _ q => q)
    obtain ⟨rfl, rfl⟩ := q
    exact wpAny_bind (wpAny_rule (wpAny_bind (wpAny_of_eq (rfl : isSame (.ref x) (.str z t) = pure false) (wpAny_pure hq))))
  · rename_i q
    exact absurd (by simp) q
end
section
variable {X : Cx} {C : Str}
theorem op_eqI (F0 : CmpI X.K (He.ga X.K C)) (hu : X.A.units + 64 < cLine) : OpR X (compareOp .Eq) (fun x y H Q => ∃ (p dx : Addr) (fs : List (Str × V)), x = .ref p ∧ H p = some (.ins (He.ga X.K C) dx fs) ∧
    ((∃ (q dy : Addr) (gs : List (Str × V)), y = .ref q ∧ H q = some (.ins (He.ga X.K C) dy gs) ∧ Q (.bl (decide (p = q))) H) ∨ ∃ z, y = .str z ∧ Q (.bl false) H)) := by
  intro pins s σ H x y v u Q I rx ry h
  obtain ⟨p, dx, fs, rfl, hp, h⟩ := h
  obtain rfl : v = Value.ref p := rx
  obtain ⟨m1, O1, _⟩ := ins_get I.hok hp
  obtain ⟨od1, J1, _⟩ := O1.look
  show wpAny (model X.prog X.w) X.A (richCompare .Eq (.ref p) u) (EP X pins σ Q) X.xe s
  rcases h with ⟨q, dy, gs, rfl, hq, k⟩ | ⟨z, rfl, k⟩
  · obtain rfl : u = Value.ref q := ry
    by_cases e : p = q
    · subst e
      rw [decide_eq_true rfl] at k
      exact rc_same (by omega) I.kIn J1 F0 ⟨.bl true, H, I, rfl, k⟩
    · rw [decide_eq_false e] at k
      obtain ⟨m2, O2, _⟩ := ins_get I.hok hq
      obtain ⟨od2, J2, _⟩ := O2.look
      exact rc_other (by omega) I.kIn J1 J2 e F0 ⟨.bl false, H, I, rfl, k⟩
  · obtain ⟨t, rfl⟩ := (show ∃ t, u = Value.str z t from ry)
    exact rc_str (by omega) I.kIn J1 F0 (fun a b => by simp) ⟨.bl false, H, I, rfl, k⟩
theorem op_neI (F0 : CmpI X.K (He.ga X.K C)) (hu : X.A.units + 64 < cLine) : OpR X (compareOp .NotEq) (fun x y H Q => ∃ (p dx : Addr) (fs : List (Str × V)) (q dy : Addr) (gs : List (Str × V)), x = .ref p ∧ H p = some (.ins (He.ga X.K C) dx fs) ∧
    y = .ref q ∧ H q = some (.ins (He.ga X.K C) dy gs) ∧ Q (.bl (!decide (p = q))) H) := by
  intro pins s σ H x y v u Q I rx ry h
  obtain ⟨p, dx, fs, q, dy, gs, rfl, hp, rfl, hq, k⟩ := h
  obtain rfl : v = Value.ref p := rx
  obtain rfl : u = Value.ref q := ry
  obtain ⟨m1, O1, _⟩ := ins_get I.hok hp
  obtain ⟨od1, J1, _⟩ := O1.look
  show wpAny (model X.prog X.w) X.A (richCompare .NotEq (.ref p) (.ref q)) (EP X pins σ Q) X.xe s
  by_cases e : p = q
  · subst e
    rw [decide_eq_true rfl] at k
    exact rn_same (by omega) I.kIn J1 F0 ⟨.bl false, H, I, rfl, k⟩
  · rw [decide_eq_false e] at k
    obtain ⟨m2, O2, _⟩ := ins_get I.hok hq
    obtain ⟨od2, J2, _⟩ := O2.look
    exact rn_other (by omega) I.kIn J1 J2 e F0 ⟨.bl true, H, I, rfl, k⟩
end
end Sz
/-! bool(x) by an own __len__ -/
namespace Sz
open PySem PySem.Spec PyProof.Rows L2 PySem.Calls PySem.W Builtin
section
variable {prog : Program} {w : World} {A : Around} {E : Value → Shared → Prop} {s : Shared} {K : Frag} {x C L f : Addr} {h₀ : Heap} {m : Str → Option Value} {ox : Obj} {od : Option Obj}
theorem len_bodyO {Q : Value → Shared → Prop} (X : K.In s.heap) (I : W.InstAt s.heap x ox C od) (hs : findIn K (.ref C) "__len__" = some (some (.ref f))) (hf : isFn K (.ref f) = true)
    (h : wpAny (model prog w) A (call (.ref f) [.ref x]) (W.LenBack Q) E s) : wpAny (model prog w) A (Builtin.«len» ⟨[.ref x], []⟩) (fun fin s' => ∃ r, fin = .done (.ret r) ∧ Q r s') E s := by
  unfold Builtin.«len»
  refine wpAny_bind (m := oneArg "len" _) (wpAny_pure ?_)
  refine wpAny_bind (m := callSpecial? (.ref x) (Str.ofString "__len__")) (special_fn X I hs (beq_iff_eq.mp hf) (wpAny_mono h (fun r s' q => ?_) fun _ _ y => y))
  cases r with
  | int n u =>
    obtain ⟨⟨h0, h1⟩, q⟩ := (show (0 ≤ n ∧ n < 2 ^ 63) ∧ Q (.int n s'.toks) { s' with toks := s'.toks + 1 } from q)
    refine wpAny_bind (wpAny_holding (wpAny_pure ?_)) ; refine wpAny_bind (wpAny_letGo ?_)
    show wpAny _ _ (if n < 0 then _ else _) _ _ _ ; rw [if_neg (by omega)]
    show wpAny _ _ (if n ≥ 2 ^ 63 then _ else _) _ _ _ ; rw [if_neg (by omega)]
    exact wpAny_bind (wpAny_mkInt (wpAny_pure ⟨_, rfl, q⟩))
  | _ => exact q.elim
theorem truthy_len {Q : Bool → Shared → Prop} (X : K.In s.heap) (I : W.InstAt s.heap x ox C od) (hb : findIn K (.ref C) "__bool__" = some none) (hs : findIn K (.ref C) "__len__" = some (some (.ref f))) (hf : isFn K (.ref f) = true)
    (h : wpAny (model prog w) A.in1 (call (.ref f) [.ref x]) (W.LenBack fun v s' => ∃ (n : Int) (t : Tok), v = .int n t ∧ Q (n != 0) s') E s) : wpAny (model prog w) A (truthy (.ref x)) Q E s := by
  have key : wpAny (model prog w) A (runValue (.builtin "len" ⟨[.ref x], []⟩)) (fun v s' => ∃ (n : Int) (t : Tok), v = .int n t ∧ Q (n != 0) s') E s := by
    refine wpAny_runValue (codeAny_builtin entry_len ?_)
    rw [Around.under_plainId plain_len _]
    exact wpAny_mono (len_bodyO (A := A.in1) X I hs hf h) (fun fin s' q => by obtain ⟨r, rfl, q⟩ := q; exact q) fun _ _ e => e
  unfold truthy
  refine wpAny_bind (m := callSpecial? (.ref x) (Str.ofString "__bool__")) (wpAny_bind (wpAny_bind (I.type.here ((looks_findIn X hb).here (wpAny_pure ?_)))))
  refine wpAny_bind (wpAny_bind (I.type.here ((looks_findIn X hs).here ?_)))
  refine wpAny_bind (wpAny_mono key (fun v s' q => ?_) fun _ _ e => e)
  obtain ⟨n, t, rfl, q⟩ := q
  exact wpAny_pure q
theorem meets_bool_len (l : Addr) : MeetsIn prog w (Builtin.«bool.__new__» ⟨[.type "bool", .ref l], []⟩) (fun A R s => wpAny (model prog w) A.in1 (truthy (.ref l)) (fun b s' => R (.ok (.ret (.bool b))) s') (fun e s' => R (.error e) s') s) :=
  .of_wp fun A R s h => by
    have f1 := F.conv_sub_bool
    have ht : ∀ {Q' : Bool → Shared → Prop} {E' : Value → Shared → Prop}, (∀ b s', R (.ok (.ret (.bool b))) s' → Q' b s') → (∀ e s', R (.error e) s' → E' e s') → wpAny (model prog w) A.in1 (truthy (.ref l)) Q' E' s := fun h1 h2 => wpAny_mono h h1 h2
    obtain ⟨hp, g, d, tk, os⟩ := s
    repeat (any_goals (first | assumption | (with_reducible refine ht (fun b s' q => ?_) (fun e s' q => q)) | wp_step))
    all_goals first | exact ⟨_, rfl, q⟩ | trace_state
variable {X : Cx} {CX : CXT} {k : Nat} {ps : List Str} {sp : Sp} {E0 : XK} {D : Str}
theorem call_boolL (G : PromM X.prog X.w X.K X.mg X.base CX k D "__len__" ps sp) (hb : findIn X.K (.ref (He.ga X.K D)) "__bool__" = some none) (hr : Room (k + 3) X.A) (hx : Passes CX X E0) :
    CallR X (.type "bool") (fun xs H Q => ∃ p dx fs, xs = [.ref p] ∧ H p = some (.ins (He.ga X.K D) dx fs) ∧ sp [.ref p] H (fun v H' => ∃ n : Int, v = .int n ∧ 0 ≤ n ∧ n < 2 ^ 63 ∧ Q (.bl (n != 0)) H') E0) := by
  intro pins s σ H xs us Q I r h
  obtain ⟨p, dx, fs, rfl, hp, h⟩ := h
  obtain ⟨u, rfl, ru⟩ := vals1 r
  obtain rfl : u = Value.ref p := ru
  obtain ⟨m1, O1, _⟩ := ins_get I.hok hp
  obtain ⟨od1, J1, _⟩ := O1.look
  have r2 : Room k X.A.in1.in1.in1 := hr.in1.in1.in1
  refine callType_newIn F.called_bool F.newNe_bool (F.typeCall_bool_1 (.ref p)) (F.newCall_bool_1 (.ref p)) (fun obj => F.args_object_init_2 obj (.ref p)) F.entry_bool_new (meets_bool_len p) ?_
  refine truthy_len I.kIn J1 hb G.me.at_ G.me.fn ?_
  refine wpAny_mono (run_own G hx (A := X.A.in1.in1.in1) ⟨r2, rfl⟩ (vs := [.ref p]) (us := [.ref p]) I (.cons rfl .nil) h) (fun v s' z => ?_) fun _ _ y => y
  obtain ⟨z, H', I', rz, n, rfl, n0, n1, q⟩ := z
  obtain ⟨t, rfl⟩ := (show ∃ t, v = Value.int n t from rz)
  exact ⟨⟨n0, n1⟩, n, _, rfl, rfl, .bl _, H', I'.tok _, rfl, q⟩
end
end Sz
/-! C(k = v) where nothing is raised -/
namespace Sz
open PySem PySem.Spec PyProof.Rows L2
section
variable {P : Program} {w : World} {K : PySem.W.Frag} {mg : Str → Option Value} {base : Heap}
theorem PromCD.plain0 {C q : Str} {st : Stmt} {N ps : List Str} {sp sp0 : Sp} {k : Nat} (mk : Mk K (He.ga K C) (He.ma K (He.ga K C) "__init__")) (hm : mg C = some (.ref (He.ga K C))) (D : DefAtM K C "__init__" q st) (S : FnScope N ps (defScope st))
    (len : ∀ vs H Q E, sp0 vs H Q E → vs.length = ps.length)
    (hb : ∀ (kV doc pm : Value) (an : Option Addr) (cdv ct : Value) (us : List Value), us.length = ps.length → bindArgs (PySem.W.fnOf "__init__" q (defArgs st) (defBody st) (defScope st) .none kV doc pm an cdv ct) ⟨us, []⟩ = pure (ps.zip us))
    (hbody : ∀ (f : Addr) (cdv : Value) (A : Around) (outer : List Env) (s : Shared) (H : Hp) (vs : List V) (Q : VK) (E : XK), Room k (A.deeper (envOfC q (defScope st) s.heap.objs.size f cdv)) → sp0 vs H Q E →
      ∃ t, PSs (cxOf CX0 P w K mg base N q (defScope st) f cdv A outer s H E).nox (defBody st) t ∧ t { nx := fun _ H' => Q .non H', rt := Q } (start N vs) H)
    (hsp : ∀ vs H Q E, sp vs H Q E → ∀ x dx, H x = none → H dx = none → dx ≠ x → sp0 (.ref x :: vs) (upd (upd H dx (.own x)) x (.ins (He.ga K C) dx [])) (fun u H2 => u = .non ∧ Q (.ref x) H2) E) :
    PromCD P w K mg base CX0 (k + 1) C q st ps sp := by
  obtain ⟨fd, F⟩ := D
  have F1 : FnOk P w K mg base CX0 (k + 1) (He.ma K (He.ga K C) "__init__") fd ps sp0 := F.ok S len (fun cdv A outer s H vs Q E hr hs => by
    obtain ⟨t, h1, h2⟩ := hbody _ cdv A outer s H vs Q E hr hs
    exact ⟨t, h1.nox, h2⟩)
  exact ⟨mk, hm, sp0, fd, F1, F.bindsN hb, F, hsp⟩
end
end Sz
/-! methods (self, *rest, k=v); try/finally whose suite raises nothing; d.get(k, v) of a dict of the top -/
namespace Sz
open PySem PySem.Spec PyProof.Rows L2
/-- a method's def with keyword-only defaults -/
def DefAtK (K : PySem.W.Frag) (C m q : Str) (st : Stmt) (kws : List (Str × V)) : Prop := ∃ fd, FunD K m q (defArgs st) (defBody st) (defScope st) [] kws (He.ma K (He.ga K C) m) fd
/-- the method m of C by a positional promise -/
structure PromMR (P : Program) (w : World) (K : PySem.W.Frag) (mg : Str → Option Value) (base : Heap) (CX : CXT) (k : Nat) (C m : Str) (sp : Sp) : Prop where
  cl : Cls K (He.ga K C)
  me : Meth K (He.ga K C) m (He.ma K (He.ga K C) m)
  fn : FnR P w K mg base CX k (He.ma K (He.ga K C) m) sp
/-- what is bound by (self, *rest, k=v) with positional values alone -/
def spStarK (dv : V) (sp0 : Sp) : Sp := fun vs H Q E => ∃ x rest, vs = x :: rest ∧ rest.length ≤ sizeLine ∧ ∀ p, H p = none → sp0 [x, dv, .ref p] (upd H p (.tup rest)) Q E
section
variable {P : Program} {w : World} {K : PySem.W.Frag} {mg : Str → Option Value} {base : Heap}
theorem PromMR.starK {C m q p0 pk pv : Str} {st : Stmt} {N : List Str} {sp0 : Sp} {dv : V} {k : Nat} (cl : Cls K (He.ga K C)) (me : Meth K (He.ga K C) m (He.ma K (He.ga K C) m)) (D : DefAtK K C m q st [(pk, dv)]) (S : FnScope N [p0, pk, pv] (defScope st))
    (hb : ∀ (D : Addr) (doc pm : Value) (an : Option Addr) (cdv ct a v : Value) (rs : List Value), ∃ (β γ : Type) (k1 : Option Value → Sem β) (k2 : β → Sem γ) (k3 : γ → Sem (List (Str × Value))) (b : β),
      bindArgs (PySem.W.fnOf m q (defArgs st) (defBody st) (defScope st) .none (.ref D) doc pm an cdv ct) ⟨a :: rs, []⟩ = ((nsGet D pk >>= k1) >>= k2) >>= k3 ∧ k1 (some v) = pure b ∧ (k2 b >>= k3) = (newTuple rs >>= fun t => pure [(p0, a), (pk, v), (pv, t)]))
    (hbody : ∀ (f : Addr) (cdv : Value) (A : Around) (outer : List Env) (s : Shared) (H : Hp) (vs : List V) (Q : VK) (E : XK), Room k (A.deeper (envOfC q (defScope st) s.heap.objs.size f cdv)) → sp0 vs H Q E →
      ∃ t, PSs (cxOf CX0 P w K mg base N q (defScope st) f cdv A outer s H E).nox (defBody st) t ∧ t { nx := fun _ H' => Q .non H', rt := Q } (start N vs) H) :
    PromMR P w K mg base CX0 (k + 1) C m (spStarK dv sp0) := by
  obtain ⟨fd, F⟩ := D
  obtain ⟨oc, od, dV, kV, doc, pm, an, cdv, ct, osl, rfl, lk, hcd, hD, hK⟩ := F.ex
  rcases hD with ⟨_, rfl⟩ | ⟨e, _⟩
  rotate_left
  · exact absurd rfl e
  rcases hK with e | ⟨Dk, rfl, hq⟩
  · cases e
  obtain ⟨u0, hns, ru0⟩ := hq (pk, dv) (.head _)
  refine ⟨cl, me, fun A outer s H us vs Q E hr e0 r hsp => ?_⟩
  obtain ⟨x, rest, ev, hz, hq⟩ := hsp
  subst ev
  cases r with
  | @cons _ a _ u2 r1 r2 =>
    have hn : H s.heap.objs.size = Option.none := e0.hok.fresh (Nat.le_refl _)
    have hl2 : u2.length ≤ sizeLine := by rw [← r2.length]; exact hz
    refine StX.run_bnd lk hcd S hr e0 (G := fun xs H2 => ∃ p, H p = Option.none ∧ xs = [x, dv, V.ref p] ∧ H2 = upd H p (.tup rest)) (fun A' Ex Q' h => ?_) fun s2 H2 xs ⟨p, hp, ex, eH⟩ hr' => ?_
    · obtain ⟨β, γ, k1, k2, k3, b, e1, e2, e3⟩ := hb Dk doc pm an cdv ct a u0 u2
      have KX : K.In s.heap := e0.mod.kin.keeps fun b o e => (e0.bs b o e).1
      have l1 : PySem.W.Looks (model P w) s.heap (nsGet Dk pk >>= k1) b := (PySem.W.looks_nsIn KX hns).andThen (PySem.W.Looks.of_pure e2)
      rw [e1, bind_assoc]
      refine wpAny_bind (l1.here ?_)
      rw [e3]
      refine wpAny_bind (wpAny_newTuple (wpAny_pure ?_) hl2)
      have new : ObjOk P w (upd H s.heap.objs.size (.tup rest)) (s.heap.push ({ cls := .type "tuple", data := .seq u2.toArray } : Obj)) s.heap.objs.size (.tup rest) := ⟨hz, u2, r2, ⟨_, Heap.get?_push_size _ rfl, rfl, _, rfl⟩⟩
      have un := StX.un_laid (fs := frs outer) (s := s) (o := ({ cls := .type "tuple", data := .seq u2.toArray } : Obj)) (u := .tup rest) hn
      exact h _ _ [x, dv, V.ref s.heap.objs.size] [a, u0, Value.ref s.heap.objs.size] (StX.env0_laid e0 new) un rfl (fun _ _ z => z) (.cons r1 (.cons ru0 (.cons rfl .nil)))
        rfl ⟨_, hn, rfl, rfl⟩
    · subst ex eH
      obtain ⟨t, h1, h2⟩ := hbody _ cdv A outer s2 _ _ Q E hr' (hq p hp)
      exact ⟨t, h1.nox, h2⟩
end
section
variable {X : Cx} {CX : CXT} {k : Nat} {x C m : Str} {sp : Sp} {E : XK} {e o : Expr} {es : List Expr} {ta : TE} {t : TA} {p pos apos : Pos}
theorem pe_methR {pl : Sem Bool} (G : PromMR X.prog X.w X.K X.mg X.base CX k C m sp) (hr : Room k X.A) (hx : Passes CX X E) (he : PE X o ta) (ha : PA X (e :: es) t)
    (hst : starEach (e :: es) X.env = (false, eval e X.env) :: starEach es X.env := by rfl) (hpl : (backTo pos (starEach es X.env)).any (·.1) = false := by rfl)
    (ht : eval (.Call (.Attribute o m apos) (e :: es) [] pos) X.env = (do
      let ov ← eval o X.env
      standAt apos.atName
      let (f, first) ← holding [ov] (getMethod ov m pl)
      callWith pos f first (backTo pos (starEach (e :: es) X.env)) (backToKw pos (keywordEach [] X.env))) := by rfl) : PE X (.Call (.Attribute o m apos) (e :: es) [] pos) (tMeth (He.ga X.K C) m sp [] E ta t) := by
  refine ⟨fun pins s σ H Q I h => ?_⟩
  refine PySem.W.methodCall_KW (pl := pl) (thn (he.run pins s σ H _ I h) fun u s1 ⟨x, H1, I1, rx, a, dx, fs, ex, ea, l, q⟩ => ?_) ht
  subst ex
  obtain rfl : u = Value.ref a := rx
  refine getmeth_ok I1 ea G.cl G.me l ?_
  refine PySem.W.callWith_K (first := [.ref a]) (h₀ := X.base) I.ok.mod.kin G.me.kp (thn (ha.run pos pins s1 σ H1 _ I1 q) fun us s2 ⟨vs, H2, I2, r, q2⟩ => ⟨I2.kIn, ?_⟩) hst hpl
  have q3 : sp ((.ref a :: vs) ++ []) H2 Q E := q2
  rw [List.append_nil] at q3
  exact wpAny_call (run_fnR (us := .ref a :: us) (vs := .ref a :: vs) G.fn hr hx I2 (.cons rfl r) q3)
end
/-! ### try: suite / finally: suite -/
def tTryFin (tb tf : TS) : TS := fun D σ H => tb { nx := fun σ1 H1 => tf D σ1 H1, rt := fun _ _ => False } σ H
section
variable {X : Cx} {body : List Stmt} {f₀ : Stmt} {fs : List Stmt} {pos : Pos} {tb tf : TS}
theorem ps_tryFinN (hb : PSs X.nox body tb) (hf : PSs X.nox (f₀ :: fs) tf) : PS X.nox (.Try body [] [] (f₀ :: fs) pos) (tTryFin tb tf) := by
  refine ⟨fun pins s σ H D I h => ?_⟩
  refine wpAny_Try_finally (wpAny_mono (hb.run pins s σ H _ I h) (fun g s1 q => ?_) fun _ _ z => False.elim z)
  cases g with
  | next =>
    obtain ⟨σ1, H1, I1, q1⟩ := q
    refine wpAny_execs_nil (wpAny_mono (hf.run pins s1 σ1 H1 D I1 q1) (fun g s2 q => ?_) fun _ _ z => False.elim z)
    cases g with
    | next => exact q
    | ret u => exact q
    | brk => exact q
    | cont => exact q
  | ret u =>
    obtain ⟨_, _, _, _, _, q⟩ := q
    exact False.elim q
  | brk =>
    obtain ⟨_, _, _, q⟩ := q
    exact False.elim q
  | cont =>
    obtain ⟨_, _, _, q⟩ := q
    exact False.elim q
end
/-- what a dict of the top has for a text -/
def intInB (K : PySem.W.Frag) (d : Addr) (k : Str) (i : Int) : Bool := match PySem.W.nsIn K d k with
  | some (some (.int j _)) => j == i
  | _ => false
theorem intInB_ok {K : PySem.W.Frag} {d : Addr} {k : Str} {i : Int} (h : intInB K d k i = true) : ∃ t, PySem.W.nsIn K d k = some (some (.int i t)) := by
  unfold intInB at h
  split at h
  · rename_i j t e
    rw [beq_iff_eq] at h
    exact ⟨t, h ▸ e⟩
  · cases h
/-! ### d.get(k, v), d a dict of the top with text keys -/
def tKGet2 (K : PySem.W.Frag) (d : Addr) (ty tx : TE) : TE := fun σ H Q => ty σ H fun y H1 => tx σ H1 fun z H2 => ∃ (kx : Str) (r : Option Value), y = .str kx ∧ PySem.W.nsIn K d kx = some r ∧ ∃ v : V, (r = none → v = z) ∧ (∀ u, r = some u → RelV v u) ∧ Q v H2
section
variable {X : Cx} {o e f : Expr} {apos cpos : Pos} {ty tx : TE} {d : Addr} {es : Array DictEntry} {n : Nat}
theorem pe_kget2 (D : KDict X.K X.w d es n) (ho : PE X o (tC (.ref d))) (he : PE X e ty) (hf : PE X f tx) (m : M2 X o "get" apos e f cpos) : PE X (.Call (.Attribute o "get" apos) [e, f] [] cpos) (tKGet2 X.K d ty tx) := by
  refine ⟨fun pins s σ H Q I h => ?_⟩
  refine wpAny_Call_method m.base m.few m.line PySem.F.plainAttrs_dict PySem.F.slot_dict_get PySem.F.type_dict_get (thn (ho.run pins s σ H (fun x H1 => x = .ref d ∧ H1 = H) I ⟨rfl, rfl⟩) fun u s1 ⟨x, H1, I1, rx, ex, eH⟩ => ?_)
  subst ex eH
  obtain rfl : u = Value.ref d := rx
  refine ⟨kd_type D I1, fun b q => ?_, ?_⟩
  · cases q
    obtain ⟨ob, _, _, h1, h2, _⟩ := PySem.W.mapOf_K (prog := X.prog) (w := X.w) I1.kIn D.at_ D.lit
    exact ⟨ob, h1, h2.2.1⟩
  rw [m.trees]
  refine Calls.callWith_builtin rfl (Calls.evalArgs_plain (Calls.spliced_cons (thn (he.run pins s1 σ H1 _ I1 h) fun iv s2 ⟨y, H2, I2, ry, q2⟩ =>
    Calls.spliced_cons (thn (hf.run pins s2 σ H2 _ I2 q2) fun fv s3 ⟨z, H3, I3, rz, kx, r, ey, hr, v, hv0, hv1, q3⟩ => Calls.spliced_nil ?_))))
  subst ey
  obtain ⟨t, rfl⟩ := ry
  have M := PySem.W.mapOf_K (prog := X.prog) (w := X.w) I3.kIn D.at_ D.lit
  refine call_meetsIn PySem.F.slot_dict_get M.typeIs PySem.F.entry_dict_get (PySem.F.args_dict_get_3 _ _ _) (meets_dict_get_default (PySem.strKind X.prog X.w) d (PySem.strKind_is X.prog X.w kx t) D.low fv) ⟨_, M, ?_⟩
  rw [PySem.W.find_K D.at_ hr]
  cases r with
  | none => exact ⟨v, H3, I3.tok _, (hv0 rfl) ▸ rz, q3⟩
  | some u => exact ⟨v, H3, I3.tok _, hv1 u rfl, q3⟩
end
end Sz
/-! some of the error classes, told by their places -/
namespace Sz
open PySem PySem.Spec PyProof.Rows L2
/-- the classes that are asked for -/
def errL : List Nat := [0, 5, 12, 13, 14, 15, 16, 17, 18]
def etabLB (K : PySem.W.Frag) (i : Nat) : Bool := excCB K (He.ga K (ew i)) && (errL.all (fun j => decide (PySem.W.kitOne K (.ref (He.ga K (ew i))) (.ref (He.ga K (ew j))) = some (decide (i = j)))) &&
  (([("value" : Str), "index", "limit"]).all (fun f => He.eqO (PySem.W.findIn K (.ref (He.ga K (ew i))) f) (some none)) && decide (PySem.W.exmAny K (.ref (He.ga K (ew i))) [.ref (He.ga K "Misfit"), .ref (He.ga K "Untimely"), .ref (He.ga K "Excess")] = some true)))
structure ErrTabL (K : PySem.W.Frag) : Prop where
  exc : ∀ i ∈ errL, ExcC K (He.ga K (ew i))
  xf : ∀ i ∈ errL, XfC K (He.ga K (ew i))
  kit : ∀ i ∈ errL, ∀ j ∈ errL, PySem.W.kitOne K (.ref (He.ga K (ew i))) (.ref (He.ga K (ew j))) = some (decide (i = j))
  no : ∀ i ∈ errL, ∀ f ∈ [("value" : Str), "index", "limit"], PySem.W.findIn K (.ref (He.ga K (ew i))) f = some none
  any : ∀ i ∈ errL, PySem.W.exmAny K (.ref (He.ga K (ew i))) [.ref (He.ga K "Misfit"), .ref (He.ga K "Untimely"), .ref (He.ga K "Excess")] = some true
theorem etabL_ok {K : PySem.W.Frag} (h : errL.all (etabLB K) = true) : ErrTabL K := by
  have g : ∀ i ∈ errL, etabLB K i = true := fun i hi => List.all_eq_true.mp h i hi
  refine ⟨fun i hi => (excCB_ok (He.ba (g i hi)).1).1, fun i hi => (excCB_ok (He.ba (g i hi)).1).2, fun i hi j hj => ?_, fun i hi f hf => ?_, fun i hi => ?_⟩
  · exact of_decide_eq_true (List.all_eq_true.mp (He.ba (He.ba (g i hi)).2).1 j hj)
  · exact He.eqO_ok (List.all_eq_true.mp (He.ba (He.ba (He.ba (g i hi)).2).2).1 f hf)
  · exact of_decide_eq_true (He.ba (He.ba (He.ba (g i hi)).2).2).2
end Sz
/-! list(zip(a, b)): the pairs are kept, so that zip makes each one anew -/
namespace PySem
open Sem (wp)
abbrev IsZipK (h : Heap) (z TI TO : Addr) (T : Addr) (b : Bool) : Prop :=
  h.get? z = some { cls := .type "zip", dict := none, data := .fields #[rawInt T, .bool b, .bool false, .ref TI, .ref TO], slots := #[] }
theorem wpAny_alive {M : Model} {A : Around} {E : Value → Shared → Prop} {a : Addr} {s : Shared} {Q : Option Obj → Shared → Prop} (h : Q (s.heap.get? a) s) : wpAny M A (loadIfAlive a) Q E s := fun Γ p _ => by
  show wp M Γ (.loadIfAlive a .pure) _ _ p s
  rw [Sem.wp_loadIfAlive]
  exact h
section
variable {prog : Program} {w : World} {A : Around} {E : Value → Shared → Prop} {s : Shared} {z TI TO i1 i2 T0 : Addr} {fp1 fp2 : List Addr} {n1 n2 i : Nat} {P1 P2 : Nat → Value → Prop} {St1 St2 : Nat → Heap → Prop} {o0 : Obj} {b : Bool}
/-- the pair is kept: it is not free -/
theorem zipK_kept {Q : Bool → Shared → Prop} (hz : IsZipK s.heap z TI TO T0 b) (h0 : s.heap.get? T0 = some o0)
    (h : ∀ h', IsZipK h' z TI TO T0 true → Heap.SameBut z s.heap h' → Q false { s with heap := h' }) : wpAny (model prog w) A (Builtin.SmallTypes.ownedTupleIsFree (.ref z)) Q E s := by
  unfold Builtin.SmallTypes.ownedTupleIsFree
  refine wpAny_bind (wpAny_field hz rfl (x := rawInt T0) rfl ?_)
  show wpAny _ _ (loadIfAlive ((T0 : Int).toNat) >>= _) _ _ s
  refine wpAny_bind (wpAny_alive ?_)
  rw [Int.toNat_natCast, h0]
  simp only [Option.isNone_some, Bool.false_eq_true, if_false]
  refine wpAny_bind (wpAny_field hz rfl (x := .bool b) rfl ?_)
  cases b with
  | true =>
    rw [if_neg (by decide)]
    refine wpAny_pure (h _ hz (Heap.SameBut.refl _ _))
  | false =>
    rw [if_pos (by decide)]
    refine wpAny_bind (wpAny_setField_rec hz (by simp) fun g0 hz0 hs0 => wpAny_pure (h _ hz0 hs0))
/-- a pair more, made anew -/
theorem zipK_item {Q : Value → Shared → Prop} (S : ZipSep2 z TI TO i1 i2 fp1 fp2) (D1 : Draws prog w A i1 fp1 n1 P1 St1) (D2 : Draws prog w A i2 fp2 n2 P2 St2)
    (hz : IsZipK s.heap z TI TO T0 b) (h0 : s.heap.get? T0 = some o0) (hTI : IsTupOf2 s.heap TI (.ref i1) (.ref i2)) (st1 : St1 i s.heap) (st2 : St2 i s.heap) (hlt1 : i < n1) (hlt2 : i < n2)
    (hQ : ∀ x1 x2 h' tk, P1 i x1 → P2 i x2 → IsZipK h' z TI TO T0 true → St1 (i + 1) h' → St2 (i + 1) h' → IsTupOf2 h' s.heap.objs.size x1 x2 → h'.objs.size = s.heap.objs.size + 1 →
      (∀ c o, c ≠ z → c ≠ i1 → c ≠ i2 → s.heap.get? c = some o → h'.get? c = some o) → Q (.ref s.heap.objs.size) { s with heap := h', toks := tk }) :
    wpAny (model prog w) A (Builtin.«zip.__next__» ⟨[.ref z], []⟩) (fun fin s' => ∃ v, fin = .done (.ret v) ∧ Q v s') E s := by
  obtain ⟨hp, g, d, tk0, os⟩ := s
  show wpAny _ _ (field (.ref z) 2 >>= _) _ _ _
  refine wpAny_bind (wpAny_field hz rfl (x := .bool false) rfl ?_)
  show wpAny _ _ (field (.ref z) 3 >>= _) _ _ _
  refine wpAny_bind (wpAny_field hz rfl (x := .ref TI) rfl ?_)
  refine wpAny_bind (wpAny_seqItems hTI rfl ?_)
  show wpAny _ _ (Builtin.SmallTypes.ownedTupleIsFree (.ref z) >>= _) _ _ _
  refine wpAny_bind (zipK_kept hz h0 fun g0 hz0 hs0 => ?_)
  replace hs0 : Heap.SameBut z hp g0 := hs0
  simp only [Bool.false_eq_true, if_false]
  simp only [List.forIn_toArray, List.forIn_cons, List.forIn_nil]
  refine wpAny_bind (wpAny_bind (wpAny_bind (wpAny_holding ?_)))
  show wpAny _ _ (Builtin.SmallTypes.nextOf (.ref i1) >>= _) _ _ ⟨g0, g, d, tk0, os⟩
  refine wpAny_bind (D1.item i _ _ _ hlt1 (D1.over st1 hs0 S.zf1) fun x1 p1 tk1 hx1 sn1 hp1 => wpAny_pure ?_)
  replace hp1 : Heap.SameBut i1 g0 p1 := hp1
  refine wpAny_pure ?_
  refine wpAny_bind (wpAny_bind (wpAny_holding ?_))
  show wpAny _ _ (Builtin.SmallTypes.nextOf (.ref i2) >>= _) _ _ ⟨p1, g, d, tk1, os⟩
  refine wpAny_bind (D2.item i _ _ _ hlt2 (D2.over (D2.over st2 hs0 S.zf2) hp1 S.sep1_2) fun x2 p2 tk2 hx2 sn2 hp2 => wpAny_pure ?_)
  replace hp2 : Heap.SameBut i2 p1 p2 := hp2
  refine wpAny_pure (wpAny_pure ?_)
  show wpAny _ _ (newTuple [x1, x2] >>= _) _ _ ⟨p2, g, d, tk2, os⟩
  refine wpAny_bind (wpAny_newTuple ?_)
  have hsz : p2.objs.size = hp.objs.size := by rw [hp2.1, hp1.1, hs0.1]
  refine wpAny_pure ⟨_, rfl, ?_⟩
  show Q (.ref p2.objs.size) ⟨p2.push { cls := .type "tuple", data := .seq #[x1, x2] }, g, d, tk2, os⟩
  rw [hsz]
  refine hQ x1 x2 _ tk2 hx1 hx2 ?_ ?_ ?_ ?_ ?_ ?_
  · exact Heap.get?_push_of_some _ (hp2.extBut _ _ S.zi2 (hp1.extBut _ _ S.zi1 hz0))
  · exact D1.frame _ _ _ (D1.over sn1 hp2 S.sep2_1) fun b _ o e => Heap.get?_push_of_some _ e
  · exact D2.frame _ _ _ sn2 fun b _ o e => Heap.get?_push_of_some _ e
  · have := Heap.get?_push_size p2 (o := { cls := .type "tuple", data := .seq #[x1, x2] }) rfl
    rw [hsz] at this
    exact this
  · rw [Heap.size_push, hsz]
  · exact fun c o cz c1 c2 e => Heap.get?_push_of_some _ (hp2.extBut _ _ c2 (hp1.extBut _ _ c1 (hs0.extBut _ _ cz e)))
theorem zipK_end {Q : Fin → Shared → Prop} (S : ZipSep2 z TI TO i1 i2 fp1 fp2) (D1 : Draws prog w A i1 fp1 n1 P1 St1) (D2 : Draws prog w A i2 fp2 n2 P2 St2)
    (hz : IsZipK s.heap z TI TO T0 b) (h0 : s.heap.get? T0 = some o0) (hTI : IsTupOf2 s.heap TI (.ref i1) (.ref i2)) (st1 : St1 n1 s.heap)
    (hE : ∀ h' tk e, (∀ c o, c ≠ z → c ≠ i1 → c ≠ i2 → s.heap.get? c = some o → h'.get? c = some o) → (∃ o, h'.get? e = some o ∧ o.cls = .type "StopIteration") → E (.ref e) { s with heap := h', toks := tk }) :
    wpAny (model prog w) A (Builtin.«zip.__next__» ⟨[.ref z], []⟩) Q E s := by
  obtain ⟨hp, g, d, tk0, os⟩ := s
  show wpAny _ _ (field (.ref z) 2 >>= _) _ _ _
  refine wpAny_bind (wpAny_field hz rfl (x := .bool false) rfl ?_)
  show wpAny _ _ (field (.ref z) 3 >>= _) _ _ _
  refine wpAny_bind (wpAny_field hz rfl (x := .ref TI) rfl ?_)
  refine wpAny_bind (wpAny_seqItems hTI rfl ?_)
  show wpAny _ _ (Builtin.SmallTypes.ownedTupleIsFree (.ref z) >>= _) _ _ _
  refine wpAny_bind (zipK_kept hz h0 fun g0 hz0 hs0 => ?_)
  replace hs0 : Heap.SameBut z hp g0 := hs0
  simp only [Bool.false_eq_true, if_false]
  simp only [List.forIn_toArray, List.forIn_cons, List.forIn_nil]
  refine wpAny_bind (wpAny_bind (wpAny_bind (wpAny_holding ?_)))
  show wpAny _ _ (Builtin.SmallTypes.nextOf (.ref i1) >>= _) _ _ ⟨g0, g, d, tk0, os⟩
  refine wpAny_bind (D1.done ⟨g0, g, d, tk0, os⟩ _ _ (D1.over st1 hs0 S.zf1) fun q e hq he => ?_)
  replace hq : Heap.ExtBut i1 g0 q := hq
  exact hE q tk0 e (fun c o cz c1 c2 x => hq _ _ c1 (hs0.extBut _ _ cz x)) he
theorem pyNext_zipK_item {Q : Option Value → Shared → Prop} (S : ZipSep2 z TI TO i1 i2 fp1 fp2) (D1 : Draws prog w A.in1 i1 fp1 n1 P1 St1) (D2 : Draws prog w A.in1 i2 fp2 n2 P2 St2)
    (hz : IsZipK s.heap z TI TO T0 b) (h0 : s.heap.get? T0 = some o0) (hTI : IsTupOf2 s.heap TI (.ref i1) (.ref i2)) (st1 : St1 i s.heap) (st2 : St2 i s.heap) (hlt1 : i < n1) (hlt2 : i < n2)
    (hQ : ∀ x1 x2 h' tk, P1 i x1 → P2 i x2 → IsZipK h' z TI TO T0 true → St1 (i + 1) h' → St2 (i + 1) h' → IsTupOf2 h' s.heap.objs.size x1 x2 → h'.objs.size = s.heap.objs.size + 1 →
      (∀ c o, c ≠ z → c ≠ i1 → c ≠ i2 → s.heap.get? c = some o → h'.get? c = some o) → Q (some (.ref s.heap.objs.size)) { s with heap := h', toks := tk }) :
    wpAny (model prog w) A (pyNext (.ref z)) Q E s := by
  have hT : s.TypeIs (.ref z) "zip" := ⟨_, hz, rfl⟩
  unfold pyNext
  exact wpAny_bind (wpAny_attempt (wpAny_callSpecial?_slot (name := Str.ofString "__next__") hT F.slot_zip_next
    (wpAny_call_entry F.slot_zip_next hT F.entry_zip_next
      (zipK_item S D1 D2 hz h0 hTI st1 st2 hlt1 hlt2 fun x1 x2 h' tk y1 y2 b1 b2 d1 d2 b5 b6 => wpAny_pure (hQ x1 x2 h' tk y1 y2 b1 b2 d1 d2 b5 b6)) (F.args_zip_next_1 _))))
theorem pyNext_zipK_end {Q : Option Value → Shared → Prop} (S : ZipSep2 z TI TO i1 i2 fp1 fp2) (D1 : Draws prog w A.in1 i1 fp1 n1 P1 St1) (D2 : Draws prog w A.in1 i2 fp2 n2 P2 St2)
    (hz : IsZipK s.heap z TI TO T0 b) (h0 : s.heap.get? T0 = some o0) (hTI : IsTupOf2 s.heap TI (.ref i1) (.ref i2)) (st1 : St1 n1 s.heap)
    (hQ : ∀ h' tk, (∀ c o, c ≠ z → c ≠ i1 → c ≠ i2 → s.heap.get? c = some o → h'.get? c = some o) → Q none { s with heap := h', toks := tk }) : wpAny (model prog w) A (pyNext (.ref z)) Q E s := by
  have hT : s.TypeIs (.ref z) "zip" := ⟨_, hz, rfl⟩
  unfold pyNext
  refine wpAny_bind (wpAny_attempt (wpAny_callSpecial?_slot (name := Str.ofString "__next__") hT F.slot_zip_next
    (wpAny_call_entry F.slot_zip_next hT F.entry_zip_next (zipK_end S D1 D2 hz h0 hTI st1 fun h' tk e hk he => ?_) (F.args_zip_next_1 _))))
  obtain ⟨o, ho, hc⟩ := he
  refine wpAny_bind (wpAny_isInstance (T := "StopIteration") (b := true) ⟨o, ho, hc⟩ isSubtype_stop ?_)
  exact wpAny_pure (hQ _ _ hk)
end
/-- the pairs laid so far -/
def ZPairs (h : Heap) (P1 P2 : Nat → Value → Prop) (N : Nat) (acc : Array Value) (i : Nat) : Prop :=
  acc.size = i ∧ (∀ j, j < i → ∃ T x1 x2, acc[j]? = some (.ref T) ∧ P1 j x1 ∧ P2 j x2 ∧ IsTupOf2 h T x1 x2 ∧ N ≤ T) ∧ ∀ (j k : Nat) (T : Addr), j < k → acc[j]? = some (Value.ref T) → acc[k]? = some (Value.ref T) → False
theorem ZPairs.nil {h : Heap} {P1 P2 : Nat → Value → Prop} {N : Nat} : ZPairs h P1 P2 N #[] 0 := ⟨rfl, fun j hj => absurd hj (Nat.not_lt_zero _), fun j k T _ e => by simp at e⟩
theorem ZPairs.off {h : Heap} {P1 P2 : Nat → Value → Prop} {N : Nat} {acc : Array Value} {i : Nat} (z : ZPairs h P1 P2 N acc i) : ∀ j : Nat, acc[j]? = some (Value.ref h.objs.size) → False := fun j e => by
  have hj : j < i := by
    have := (Array.getElem?_eq_some_iff.mp e).1
    rw [z.1] at this
    exact this
  obtain ⟨T, x1, x2, a, b, c, d, f⟩ := z.2.1 j hj
  rw [a] at e
  cases e
  exact Nat.lt_irrefl _ (Heap.lt_size d)
theorem ZPairs.keep {h h' : Heap} {P1 P2 : Nat → Value → Prop} {N : Nat} {acc : Array Value} {i : Nat} (z : ZPairs h P1 P2 N acc i) (k : ∀ T, N ≤ T → ∀ o, h.get? T = some o → h'.get? T = some o) : ZPairs h' P1 P2 N acc i :=
  ⟨z.1, fun j hj => (let ⟨T, x1, x2, a, b, c, d, e⟩ := z.2.1 j hj; ⟨T, x1, x2, a, b, c, k T e _ d, e⟩), z.2.2⟩
theorem ZPairs.push {h : Heap} {P1 P2 : Nat → Value → Prop} {N T : Nat} {acc : Array Value} {i : Nat} {x1 x2 : Value} (z : ZPairs h P1 P2 N acc i) (p1 : P1 i x1) (p2 : P2 i x2) (t : IsTupOf2 h T x1 x2) (n : N ≤ T) (ne : ∀ j : Nat, acc[j]? = some (Value.ref T) → False) : ZPairs h P1 P2 N (acc.push (.ref T)) (i + 1) := by
  have old : ∀ j, j < i → (acc.push (.ref T))[j]? = acc[j]? := fun j hj => by
    have h1 : j < acc.size := by rw [z.1]; exact hj
    rw [Array.getElem?_push_lt h1]
    simp [h1]
  have new : (acc.push (.ref T))[i]? = some (.ref T) := by
    have := z.1
    subst this
    simp
  refine ⟨by rw [Array.size_push, z.1], fun j hj => ?_, fun j k U hjk e1 e2 => ?_⟩
  · by_cases e : j = i
    · subst e
      exact ⟨T, x1, x2, new, p1, p2, t, n⟩
    · obtain ⟨T', y1, y2, a, b⟩ := z.2.1 j (by omega)
      exact ⟨T', y1, y2, (old j (by omega)).trans a, b⟩
  · have hk : k < i + 1 := by
      have := (Array.getElem?_eq_some_iff.mp e2).1
      rw [Array.size_push, z.1] at this
      exact this
    rw [old j (by omega)] at e1
    by_cases e : k = i
    · subst e
      rw [new] at e2
      cases e2
      exact ne j e1
    · rw [old k (by omega)] at e2
      exact z.2.2 j k U hjk e1 e2
section
variable {prog : Program} {w : World} {A : Around} {R : Result → Shared → Prop} {z TI TO i1 i2 T0 L : Addr} {fp1 fp2 : List Addr} {n N : Nat} {P1 P2 : Nat → Value → Prop} {St1 St2 : Nat → Heap → Prop}
theorem zipK_loop (S : ZipSep2 z TI TO i1 i2 fp1 fp2) (D1 : Draws prog w A.in1.in1 i1 fp1 n P1 St1) (D2 : Draws prog w A.in1.in1 i2 fp2 n P2 St2) (hn : n ≤ sizeLine) (lz : L ≠ z) (lt : L ≠ TI) (l1 : L ∉ fp1) (l2 : L ∉ fp2) (nz : z < N) (nl : L < N) (n1 : i1 < N) (n2 : i2 < N) (hT0 : N ≤ T0) (res : Value) :
    ∀ (k i : Nat) (s : Shared) (acc : Array Value) (c : Nat) (b : Bool), n - i = k → i ≤ n → IsZipK s.heap z TI TO T0 b → (∃ o0, s.heap.get? T0 = some o0) → IsTupOf2 s.heap TI (.ref i1) (.ref i2) → St1 i s.heap → St2 i s.heap → N ≤ s.heap.objs.size →
      s.heap.get? L = some { cls := .type "list", dict := none, data := .seq acc c, slots := #[] } → ZPairs s.heap P1 P2 N acc i →
      (∀ h' tk acc' c', (∀ a o, a ≠ z → a ≠ i1 → a ≠ i2 → a ≠ L → s.heap.get? a = some o → h'.get? a = some o) → h'.get? L = some { cls := .type "list", dict := none, data := .seq acc' c', slots := #[] } → ZPairs h' P1 P2 N acc' n → R (.ok (.ret res)) { s with heap := h', toks := tk }) →
      codeAny (model prog w) A (.builtin "list.extend.loop" ⟨[.ref L, .ref z, res], []⟩) R s := by
  have gt : ∀ {x T : Addr}, x < N → N ≤ T → T ≠ x := fun h1 h2 => Nat.ne_of_gt (Nat.lt_of_lt_of_le h1 h2)
  have m1 : L ≠ i1 := fun e => l1 (e ▸ S.mem1)
  have m2 : L ≠ i2 := fun e => l2 (e ▸ S.mem2)
  intro k
  induction k with
  | zero =>
    intro i s acc c b hk hi hz ⟨o0, h0⟩ hTI st1 st2 hN hL hacc hR
    have hin : i = n := by omega
    subst hin
    refine codeAny_builtin F.entry_extend_loop ?_
    rw [Around.under_plainId F.plain_extend_loop _]
    show wpAny _ A.in1 (pyNext (.ref z) >>= _) _ _ s
    refine wpAny_bind (pyNext_zipK_end S D1 D2 hz h0 hTI st1 fun h' tk kk => ?_)
    refine wpAny_pure (hR h' tk acc c (fun a o a1 a2 a3 _ e => kk a o a1 a2 a3 e) (kk _ _ lz m1 m2 hL) (hacc.keep fun T hT o e => kk T o (gt nz hT) (gt n1 hT) (gt n2 hT) e))
  | succ k ih =>
    intro i s acc c b hk hi hz ⟨o0, h0⟩ hTI st1 st2 hN hL hacc hR
    have hlt : i < n := by omega
    refine codeAny_builtin F.entry_extend_loop ?_
    rw [Around.under_plainId F.plain_extend_loop _]
    show wpAny _ A.in1 (pyNext (.ref z) >>= _) _ _ s
    refine wpAny_bind (pyNext_zipK_item S D1 D2 hz h0 hTI st1 st2 hlt hlt fun x1 x2 h' tk y1 y2 b1 b2 b3 b4 b5 kk => ?_)
    have hL' := kk _ _ lz m1 m2 hL
    show wpAny _ A.in1 (updateSeq L (·.push (.ref s.heap.objs.size)) >>= _) _ _ _
    refine wpAny_bind ?_
    have oth : ∀ a o, a ≠ L → h'.get? a = some o → (h'.update L (Obj.mapSeq (·.push (.ref s.heap.objs.size)))).get? a = some o := fun a o ne e => (Heap.get?_update_other _ _ (Ne.symm ne)).trans e
    refine wpAny_updateSeq hL' rfl (wpAny_pure ⟨plainId_quiet F.plain_extend_loop _, ih (i + 1) _ (acc.push (.ref s.heap.objs.size)) _ true (by omega) hlt (oth _ _ (Ne.symm lz) b1) ⟨o0, oth _ _ (gt nl hT0) (kk _ _ (gt nz hT0) (gt n1 hT0) (gt n2 hT0) h0)⟩ (oth _ _ (Ne.symm lt) (kk _ _ S.TIz S.TIi1 S.TIi2 hTI))
      (D1.frame _ _ _ b2 fun b hb o e => oth b o (fun q => l1 (q ▸ hb)) e) (D2.frame _ _ _ b3 fun b hb o e => oth b o (fun q => l2 (q ▸ hb)) e) ?_ (Heap.get?_update_self _ hL' rfl) ?_ fun h'' tk'' acc' c' k2 hL2 hacc2 => ?_⟩)
      (by rw [hacc.1]; omega) (by show (acc.push _).size ≤ sizeLine + 1; rw [Array.size_push, hacc.1]; omega)
    · show N ≤ (h'.update L _).objs.size
      rw [Heap.size_update, b5]
      exact Nat.le_succ_of_le hN
    · refine (hacc.keep fun T hT o e => oth T o (gt nl hT) (kk T o (gt nz hT) (gt n1 hT) (gt n2 hT) e)).push y1 y2 (oth _ _ (gt nl hN) b4) hN hacc.off
    · exact hR h'' tk'' acc' c' (fun a o a1 a2 a3 a4 e => k2 a o a1 a2 a3 a4 (oth a o a4 (kk a o a1 a2 a3 e))) hL2 hacc2
/-- from the first pair on -/
theorem zipL_loop (S : ZipSep2 z TI TO i1 i2 fp1 fp2) (D1 : Draws prog w A.in1.in1 i1 fp1 n P1 St1) (D2 : Draws prog w A.in1.in1 i2 fp2 n P2 St2) (hn : n ≤ sizeLine) (lz : L ≠ z) (lt : L ≠ TI) (lo : L ≠ TO) (l1 : L ∉ fp1) (l2 : L ∉ fp2) (nz : z < N) (nl : L < N) (n1 : i1 < N) (n2 : i2 < N) (no : TO < N) (res : Value)
    {s : Shared} {c : Nat} (hz : IsZip s.heap z TI TO .none) (hTI : IsTupOf2 s.heap TI (.ref i1) (.ref i2)) (hTO : IsTupOf2 s.heap TO .none .none) (st1 : St1 0 s.heap) (st2 : St2 0 s.heap) (hN : N ≤ s.heap.objs.size)
    (hL : s.heap.get? L = some { cls := .type "list", dict := none, data := .seq #[] c, slots := #[] })
    (hR : ∀ h' tk acc' c', (∀ a o, a ≠ z → a ≠ TO → a ≠ i1 → a ≠ i2 → a ≠ L → s.heap.get? a = some o → h'.get? a = some o) → h'.get? L = some { cls := .type "list", dict := none, data := .seq acc' c', slots := #[] } → ZPairs h' P1 P2 N acc' n → R (.ok (.ret res)) { s with heap := h', toks := tk }) :
    codeAny (model prog w) A (.builtin "list.extend.loop" ⟨[.ref L, .ref z, res], []⟩) R s := by
  have gt : ∀ {x T : Addr}, x < N → N ≤ T → T ≠ x := fun h1 h2 => Nat.ne_of_gt (Nat.lt_of_lt_of_le h1 h2)
  have m1 : L ≠ i1 := fun e => l1 (e ▸ S.mem1)
  have m2 : L ≠ i2 := fun e => l2 (e ▸ S.mem2)
  refine codeAny_builtin F.entry_extend_loop ?_
  rw [Around.under_plainId F.plain_extend_loop _]
  show wpAny _ A.in1 (pyNext (.ref z) >>= _) _ _ s
  by_cases h0 : n = 0
  · subst h0
    refine wpAny_bind (wpAny_pyNext_zipD2_end S D1 D2 hz hTI hTO st1 st2 (Nat.le_refl _) (Nat.le_refl _) (.inl rfl) fun h' tk kk => ?_)
    exact wpAny_pure (hR h' tk #[] c (fun a o a1 a2 a3 a4 _ e => kk a o a1 a2 a3 a4 e) (kk _ _ lz lo m1 m2 hL) .nil)
  · have hlt : 0 < n := Nat.pos_of_ne_zero h0
    refine wpAny_bind (wpAny_pyNext_zipD2_item S D1 D2 hz hTI hTO st1 st2 hlt hlt fun x1 x2 h' tk y1 y2 b1 b2 b3 b4 b5 b6 kk => ?_)
    have hL' := kk _ _ lz lo m1 m2 hL
    show wpAny _ A.in1 (updateSeq L (·.push (.ref s.heap.objs.size)) >>= _) _ _ _
    refine wpAny_bind ?_
    have oth : ∀ a o, a ≠ L → h'.get? a = some o → (h'.update L (Obj.mapSeq (·.push (.ref s.heap.objs.size)))).get? a = some o := fun a o ne e => (Heap.get?_update_other _ _ (Ne.symm ne)).trans e
    refine wpAny_updateSeq hL' rfl (wpAny_pure ⟨plainId_quiet F.plain_extend_loop _, zipK_loop S D1 D2 hn lz lt l1 l2 nz nl n1 n2 (T0 := s.heap.objs.size) hN res (n - 1) 1 _ _ _ false rfl hlt (oth _ _ (Ne.symm lz) b1) ⟨_, oth _ _ (gt nl hN) b5⟩ (oth _ _ (Ne.symm lt) (kk _ _ S.TIz S.TITO S.TIi1 S.TIi2 hTI))
      (D1.frame _ _ _ b3 fun b hb o e => oth b o (fun q => l1 (q ▸ hb)) e) (D2.frame _ _ _ b4 fun b hb o e => oth b o (fun q => l2 (q ▸ hb)) e) ?_ (Heap.get?_update_self _ hL' rfl) ?_ fun h'' tk'' acc' c' k2 hL2 hacc2 => ?_⟩)
      (by show (0 : Nat) ≤ _; exact Nat.zero_le _) (by show (1 : Nat) ≤ sizeLine + 1; omega)
    · show N ≤ (h'.update L _).objs.size
      rw [Heap.size_update, b6]
      exact Nat.le_succ_of_le hN
    · exact ZPairs.push .nil y1 y2 (oth _ _ (gt nl hN) b5) hN (fun j e => by simp at e)
    · exact hR h'' tk'' acc' c' (fun a o a1 a0 a2 a3 a4 e => k2 a o a1 a2 a3 a4 (oth a o a4 (kk a o a1 a0 a2 a3 e))) hL2 hacc2
end
theorem zip_nolen : typeLookup (.type "zip") "__len__" = pure none := by rw [typeLookup_type, builtinLookup_eq_fast]; kernel_rfl
theorem zip_nohint : typeLookup (.type "zip") "__length_hint__" = pure none := by rw [typeLookup_type, builtinLookup_eq_fast]; kernel_rfl
section
variable {prog : Program} {w : World} {A : Around} {E : Value → Shared → Prop} {s : Shared}
theorem zipL_hint {r : Addr} {Q : Bool → Shared → Prop} (hT : s.TypeIs (.ref r) "zip") (h : Q true s) : wpAny (model prog w) A (Builtin.List.listLengthHint (.ref r)) Q E s := by
  unfold Builtin.List.listLengthHint
  refine wpAny_bind (wpAny_specialOf hT zip_nolen ?_)
  show wpAny _ A (specialOf (Value.ref r) (Str.ofString "__length_hint__") >>= _) _ _ _
  refine wpAny_bind (wpAny_specialOf hT zip_nohint ?_)
  exact wpAny_pure h
/-- list(z), z a new zip over two lists of one length -/
theorem zipL_call {z TI TO i1 i2 : Addr} {fp1 fp2 : List Addr} {n : Nat} {P1 P2 : Nat → Value → Prop} {St1 St2 : Nat → Heap → Prop} {Q : Value → Shared → Prop} (S : ZipSep2 z TI TO i1 i2 fp1 fp2) (D1 : ∀ A : Around, A.handled = none → Draws prog w A i1 fp1 n P1 St1) (D2 : ∀ A : Around, A.handled = none → Draws prog w A i2 fp2 n P2 St2) (hh : A.handled = none) (hn : n ≤ sizeLine)
    (hz : IsZip s.heap z TI TO .none) (hTI : IsTupOf2 s.heap TI (.ref i1) (.ref i2)) (hTO : IsTupOf2 s.heap TO .none .none) (st1 : St1 0 s.heap) (st2 : St2 0 s.heap) (f1 : ∀ b ∈ fp1, b < s.heap.objs.size) (f2 : ∀ b ∈ fp2, b < s.heap.objs.size)
    (hQ : ∀ h' tk acc c, (∀ a o, a ≠ z → a ≠ TO → a ≠ i1 → a ≠ i2 → s.heap.get? a = some o → h'.get? a = some o) → h'.get? s.heap.objs.size = some { cls := .type "list", dict := none, data := .seq acc c, slots := #[] } → ZPairs h' P1 P2 (s.heap.objs.size + 1) acc n → Q (.ref s.heap.objs.size) { s with heap := h', toks := tk }) :
    wpAny (model prog w) A (call (.type "list") [.ref z]) Q E s := by
  refine callType_codes (Q₁ := fun obj s₁ => obj = .ref s.heap.objs.size ∧ s₁ = { s with heap := s.heap.push { cls := .type "list", data := .seq #[] } }) PySem.F.called_list (PySem.F.typeCall_list_1 _) PySem.F.entry_list_init
    (code_list_new _ ⟨rfl, rfl⟩) fun obj s₁ h₁ => ?_
  obtain ⟨rfl, rfl⟩ := h₁
  obtain ⟨hp, g, d, tk, os⟩ := s
  have hS : (hp.push { cls := .type "list", data := .seq #[] }).get? hp.objs.size = some { cls := .type "list", data := .seq #[] } := Heap.get?_push_size _ rfl
  have kp : ∀ b o, hp.get? b = some o → (hp.push { cls := .type "list", data := .seq #[] }).get? b = some o := fun b o e => Heap.get?_push_of_some _ e
  have lt : ∀ {b : Addr} {o : Obj}, hp.get? b = some o → hp.objs.size ≠ b := fun e => Nat.ne_of_gt (Heap.lt_size e)
  have lt2 : ∀ {b : Addr} {o : Obj}, hp.get? b = some o → b < hp.objs.size + 1 := fun e => Nat.lt_succ_of_lt (Heap.lt_size e)
  refine ⟨⟨_, hS, rfl⟩, PySem.F.args_list_init_2 _ _, ?_⟩
  show wpAny _ _ (do let old ← Builtin.List.listItems (.ref hp.objs.size); Builtin.List.listUpdate (.ref hp.objs.size) (fun _ => #[]); letGo old.toList.reverse; Builtin.List.listExtendWith (.ref hp.objs.size) (.ref z) .none) _ _ _
  refine wpAny_bind ?_
  unfold Builtin.List.listItems
  refine wpAny_bind (wpAny_seqItems hS rfl (wpAny_pure ?_))
  show wpAny _ _ (updateSeq hp.objs.size (fun _ => #[]) >>= fun _ => letGo (#[] : Array Value).toList.reverse >>= fun _ => Builtin.List.listExtendWith (.ref hp.objs.size) (.ref z) .none) _ _ _
  refine wpAny_bind (wpAny_updateSeq hS rfl ?_)
  have hS₂ := Heap.get?_update_self (Obj.mapSeq (fun _ => (#[] : Array Value))) hS rfl
  have oth : ∀ b o, b ≠ hp.objs.size → hp.get? b = some o → ((hp.push { cls := .type "list", data := .seq #[] }).update hp.objs.size (Obj.mapSeq (fun _ => (#[] : Array Value)))).get? b = some o :=
    fun b o hb e => (Heap.get?_update_other _ _ (Ne.symm hb)).trans (kp b o e)
  refine wpAny_bind (wpAny_letGo ?_)
  unfold Builtin.List.listExtendWith
  have hz2 := oth _ _ (Ne.symm (lt hz)) hz
  refine wpAny_bind (wpAny_typeOf (T := "zip") ⟨_, hz2, rfl⟩ ?_)
  have h1 : Builtin.List.listSameRef (.ref hp.objs.size) (.ref z) = false := by simp [Builtin.List.listSameRef, lt hz]
  rw [if_neg (by rw [h1]; decide)]
  refine wpAny_bind (wpAny_pyIter_zip hz2 ?_)
  refine wpAny_bind (wpAny_holding (zipL_hint ⟨_, hz2, rfl⟩ ?_))
  rw [if_pos (by simp)]
  refine wpAny_bind (wpAny_rule ?_)
  refine wpAny_bind ?_
  show wpAny _ _ (updateSeq hp.objs.size (·.push .none) >>= fun _ => updateSeq hp.objs.size (·.pop)) _ _ _
  refine wpAny_bind (wpAny_updateSeq hS₂ rfl ?_)
  have hS₃ := Heap.get?_update_self (Obj.mapSeq (·.push Value.none)) hS₂ rfl
  refine wpAny_updateSeq (hz := by seq_fits) hS₃ rfl ?_
  have hS₄ := Heap.get?_update_self (Obj.mapSeq (·.pop)) hS₃ rfl
  have oth4 : ∀ b o, b ≠ hp.objs.size → hp.get? b = some o → ((((hp.push { cls := .type "list", data := .seq #[] }).update hp.objs.size (Obj.mapSeq (fun _ => (#[] : Array Value)))).update hp.objs.size (Obj.mapSeq (·.push Value.none))).update hp.objs.size (Obj.mapSeq (·.pop))).get? b = some o :=
    fun b o hb e => (Heap.get?_update_other _ _ (Ne.symm hb)).trans ((Heap.get?_update_other _ _ (Ne.symm hb)).trans (oth b o hb e))
  have af : A.in1.in1.in1.handled = none := hh
  have ne1 : hp.objs.size ∉ fp1 := fun q => Nat.lt_irrefl _ (f1 _ q)
  have ne2 : hp.objs.size ∉ fp2 := fun q => Nat.lt_irrefl _ (f2 _ q)
  refine wpAny_pure ⟨plainId_quiet PySem.F.plain_extend_loop _, zipL_loop (A := A.in1) (N := hp.objs.size + 1) S (D1 _ af) (D2 _ af) hn (lt hz) (lt hTI) (lt hTO) ne1 ne2 (lt2 hz) (Nat.lt_succ_self _) (Nat.lt_succ_of_lt (f1 _ S.mem1)) (Nat.lt_succ_of_lt (f2 _ S.mem2)) (lt2 hTO) .none
    (oth4 _ _ (Ne.symm (lt hz)) hz) (oth4 _ _ (Ne.symm (lt hTI)) hTI) (oth4 _ _ (Ne.symm (lt hTO)) hTO) ((D1 _ af).frame _ _ _ st1 fun b hb o e => oth4 b o (fun q => ne1 (q ▸ hb)) e) ((D2 _ af).frame _ _ _ st2 fun b hb o e => oth4 b o (fun q => ne2 (q ▸ hb)) e) ?_ hS₄ fun h' tk' acc' c' k2 hL hz' => ?_⟩
  · show _ ≤ (((((hp.push { cls := .type "list", data := .seq #[] }).update _ _).update _ _).update _ _)).objs.size
    rw [Heap.size_update, Heap.size_update, Heap.size_update, Heap.size_push]
    exact Nat.le_refl _
  · exact ⟨rfl, hQ h' tk' acc' c' (fun a o a1 a2 a3 a4 e => k2 a o a1 a2 a3 a4 (Ne.symm (lt e)) (oth4 a o (Ne.symm (lt e)) e)) hL hz'⟩
end
end PySem
namespace Sz
open PySem PySem.Spec PyProof.Rows L2
section
variable {X : Cx} {pins : List (Addr × Obj)} {σ : L2.St} {H H' : Hp} {s : Shared} {h' : Heap} {t' : Nat}
/-- many new objects at once -/
theorem inv_many (I : Inv X pins σ H s) (k : ∀ b u, s.heap.get? b = some u → h'.get? b = some u) (sm : Same H H') (nw : ∀ b u, H' b = some u → H b = some u ∨ (s.heap.objs.size ≤ b ∧ ObjOk X.prog X.w H' h' b u)) : Inv X pins σ H' { s with heap := h', toks := t' } := by
  refine I.un ⟨fun b u q _ _ _ => k b u q, fun b u q _ _ _ => ⟨u.slots, k b u q⟩, fun b u q n _ => ?_, fun b u q _ => ⟨u, k b u q⟩, fun b xs q => sm _ _ q, fun b o u q => sm _ _ q, fun b ps q => ⟨#[], by rw [sm _ _ q]; simp⟩⟩ (fun b u e => ?_)
  · cases z : H' b with
    | none => rfl
    | some v =>
      rcases nw b v z with a | ⟨a, _⟩
      · rw [n] at a; cases a
      · exact absurd (Heap.lt_size q) (Nat.not_lt.mpr a)
  · rcases nw b u e with a | ⟨_, a⟩
    · exact (I.hok b u a).stay (fun c v _ q => k c v q) (fun c q => sm _ _ q) fun c xs q => sm _ _ q
    · exact a
end
open Classical in
/-- n pairs, at T 0, T 1, .. -/
noncomputable def pairsH (n : Nat) (T : Nat → Addr) (xs ys : List V) (b : Addr) : Option HO := if h : ∃ j, j < n ∧ T j = b then some (.tup [xs.getD (Classical.choose h) .non, ys.getD (Classical.choose h) .non]) else none
theorem pairsH_at {n : Nat} {T : Nat → Addr} {xs ys : List V} {j : Nat} (inj : ∀ i k, i < n → k < n → T i = T k → i = k) (hj : j < n) : pairsH n T xs ys (T j) = some (.tup [xs.getD j .non, ys.getD j .non]) := by
  have h : ∃ i, i < n ∧ T i = T j := ⟨j, hj, rfl⟩
  have e : Classical.choose h = j := inj _ _ (Classical.choose_spec h).1 hj (Classical.choose_spec h).2
  unfold pairsH
  rw [dif_pos h, e]
theorem pairsH_some {n : Nat} {T : Nat → Addr} {xs ys : List V} {b : Addr} {u : HO} (h : pairsH n T xs ys b = some u) : ∃ j, j < n ∧ T j = b ∧ u = .tup [xs.getD j .non, ys.getD j .non] := by
  unfold pairsH at h
  split at h
  · rename_i z
    cases h
    exact ⟨_, (Classical.choose_spec z).1, (Classical.choose_spec z).2, rfl⟩
  · cases h
def tLstZip (K : PySem.W.Frag) (ta : TA) : TE := fun σ H Q => ta σ H fun vs H1 => ∃ a b xs ys, vs = [.ref a, .ref b] ∧ SqL K H1 a xs ∧ SqL K H1 b ys ∧ xs.length = ys.length ∧
  ∀ (p : Addr) (H2 : Hp) (ts : List V), H1 p = none → Same H1 H2 → H2 p = some (.lst ts) → ts.length = xs.length → (∀ (j : Nat) x y, xs[j]? = some x → ys[j]? = some y → ∃ T, ts[j]? = some (V.ref T) ∧ H1 T = none ∧ H2 T = some (.tup [x, y])) → Q (.ref p) H2
theorem pe_listZip {X : Cx} {e e2 : Expr} {ta : TA} {p p2 pos pos2 : Pos} (hc : X.calm = true) (hgl : Gl X "list") (hml : X.mg "list" = none) (hg : Gl X "zip") (hm : X.mg "zip" = none) (ha : PA X [e, e2] ta)
    (hs : starEach [e, e2] X.env = (false, eval e X.env) :: starEach [e2] X.env := by rfl) (hpl : (backTo pos2 (starEach [e2] X.env)).any (·.1) = false := by rfl)
    (na : starEach [.Call (.Name "zip" p2) [e, e2] [] pos2] X.env = (false, eval (.Call (.Name "zip" p2) [e, e2] [] pos2) X.env) :: starEach [] X.env := by rfl) :
    PE X (.Call (.Name "list" p) [.Call (.Name "zip" p2) [e, e2] [] pos2] [] pos) (tLstZip X.K ta) := by
  refine ⟨fun pins s σ H Q I h => ?_⟩
  refine Call_ (ld_blt I hgl hml boot_list (PyProof.Rows.callWith_type1 (args_cons ?_ na) na))
  refine Call_ (ld_blt I hg hm PyProof.Rows.boot_zip (PyProof.Rows.callWith_type1 (thn (ha.run pos2 pins s σ H _ I h) fun us s1 ⟨vs, H1, I1, r1, q1⟩ => ?_) hs hpl))
  obtain ⟨a, b, xs, ys, ex, hqx, hqy, hl, q⟩ := q1
  subst ex
  cases r1 with
  | cons r rr =>
    cases rr with
    | cons r' rr =>
      cases rr
      cases r
      cases r'
      obtain ⟨its, rv, p1, zs⟩ := I1.list hqx
      obtain ⟨its2, rv2, p2', _⟩ := I1.list hqy
      have la : a < s1.heap.objs.size := p1.lt
      have lb : b < s1.heap.objs.size := p2'.lt
      have e1 : its.length = xs.length := rv.length.symm
      have e2 : its2.length = its.length := by rw [e1, hl]; exact rv2.length.symm
      refine zip_begins2 (begins_list a its.toArray) (begins_list b its2.toArray) p1.isList p2'.isList fun h1 hz hTI hTO g1 g2 hsz hk => args_nil ?_
      have hd := I1.ok.hd hc
      refine zipL_call (s := { s1 with heap := h1 }) (fp1 := [s1.heap.objs.size, a]) (fp2 := [s1.heap.objs.size + 1, b]) (n := its.toArray.size) (P1 := fun i v => its.toArray[i]? = some v) (P2 := fun i v => its2.toArray[i]? = some v) (St1 := fun i h => h.IsListIter s1.heap.objs.size a i ∧ h.IsList a its.toArray) (St2 := fun i h => h.IsListIter (s1.heap.objs.size + 1) b i ∧ h.IsList b its2.toArray)
        (zip_sep2 (N := s1.heap.objs.size) (fp1 := [a]) (fp2 := [b]) (by simpa using la) (by simpa using lb)) (fun A hA => Draws.list hA _ a (Nat.ne_of_lt la) its.toArray) (fun A hA => ?_) hd ?_ hz hTI hTO ⟨⟨_, g1, rfl, rfl⟩, ?_⟩ ⟨⟨_, g2, rfl, rfl⟩, ?_⟩ ?_ ?_ fun h2 tk acc c k2 hL zp => ?_
      · rw [show its.toArray.size = its2.toArray.size by simp [e2]]
        exact Draws.list hA _ b (Nat.ne_of_lt (Nat.lt_succ_of_lt lb)) its2.toArray
      · show its.length ≤ sizeLine
        first | exact zs | (rw [e1]; exact zs) | omega
      · exact p1.isList.at fun o e => hk a o e
      · exact p2'.isList.at fun o e => hk b o e
      · intro c hcm
        show c < h1.objs.size
        rw [hsz]
        rcases List.mem_cons.mp hcm with z | z
        · rw [z]; exact Nat.lt_add_of_pos_right (by decide)
        · rw [List.mem_singleton.mp z]; exact Nat.lt_of_lt_of_le la (Nat.le_add_right _ _)
      · intro c hcm
        show c < h1.objs.size
        rw [hsz]
        rcases List.mem_cons.mp hcm with z | z
        · rw [z]; exact Nat.add_lt_add_left (by decide) _
        · rw [List.mem_singleton.mp z]; exact Nat.lt_of_lt_of_le lb (Nat.le_add_right _ _)
      · replace hL : h2.get? h1.objs.size = some { cls := .type "list", dict := none, data := .seq acc c, slots := #[] } := hL
        show EP X pins σ Q (.ref h1.objs.size) { s1 with heap := h2, toks := tk }
        replace zp : ZPairs h2 (fun i v => its.toArray[i]? = some v) (fun i v => its2.toArray[i]? = some v) (h1.objs.size + 1) acc its.toArray.size := zp
        rw [hsz] at hL zp ⊢
        have hn : its.toArray.size = xs.length := by simp [e1]
        rw [hn] at zp
        let T : Nat → Addr := fun j => match acc[j]? with
          | some (.ref a) => a
          | _ => 0
        have hT : ∀ j, j < xs.length → ∃ x1 x2, acc[j]? = some (.ref (T j)) ∧ its[j]? = some x1 ∧ its2[j]? = some x2 ∧ IsTupOf2 h2 (T j) x1 x2 ∧ s1.heap.objs.size + 6 ≤ T j := fun j hj => by
          obtain ⟨U, x1, x2, a1, a2, a3, a4, a5⟩ := zp.2.1 j hj
          have : T j = U := by show (match acc[j]? with | some (.ref a) => a | _ => 0) = U; rw [a1]
          rw [this]
          exact ⟨x1, x2, a1, by simpa using a2, by simpa using a3, a4, a5⟩
        have inj : ∀ i k, i < xs.length → k < xs.length → T i = T k → i = k := fun i k hi hk e => by
          obtain ⟨_, _, b1, _⟩ := hT i hi
          obtain ⟨_, _, b2, _⟩ := hT k hk
          rcases Nat.lt_trichotomy i k with z | z | z
          · rw [← e] at b2
            exact (zp.2.2 i k _ z b1 b2).elim
          · exact z
          · rw [e] at b1
            exact (zp.2.2 k i _ z b2 b1).elim
        have ge : ∀ j, j < xs.length → s1.heap.objs.size + 6 ≤ T j := fun j hj => let ⟨_, _, _, _, _, _, z⟩ := hT j hj; z
        let ts : List V := (List.range xs.length).map fun j => V.ref (T j)
        let H2 : Hp := fun b => if b = s1.heap.objs.size + 5 then some (.lst ts) else match pairsH xs.length T xs ys b with
          | some u => some u
          | none => H1 b
        have hp5 : H1 (s1.heap.objs.size + 5) = none := I1.hok.fresh (Nat.le_add_right _ _)
        have sm : Same H1 H2 := fun b u e => by
          show (if b = s1.heap.objs.size + 5 then some (.lst ts) else match pairsH xs.length T xs ys b with
            | some u => some u
            | none => H1 b) = some u
          rw [if_neg (ne_of_none e hp5)]
          cases z : pairsH xs.length T xs ys b with
          | none => exact e
          | some v =>
            obtain ⟨j, hj, rfl, _⟩ := pairsH_some z
            rw [I1.hok.fresh (Nat.le_trans (Nat.le_add_right _ 6) (ge j hj))] at e
            cases e
        have tl : ts.length = xs.length := by simp [ts]
        have hts : H2 (s1.heap.objs.size + 5) = some (.lst ts) := if_pos rfl
        refine ⟨.ref (s1.heap.objs.size + 5), H2, inv_many I1 (fun b u e => ?_) sm (fun b u e => ?_), rfl, q _ H2 ts hp5 sm hts tl fun j x y hx hy => ?_⟩
        · have hlt := Heap.lt_size e
          refine k2 b u ?_ ?_ ?_ ?_ (hk b u e)
          · exact Nat.ne_of_lt (Nat.lt_of_lt_of_le hlt (Nat.le_add_right _ _))
          · exact Nat.ne_of_lt (Nat.lt_of_lt_of_le hlt (Nat.le_add_right _ _))
          · exact Nat.ne_of_lt hlt
          · exact Nat.ne_of_lt (Nat.lt_of_lt_of_le hlt (Nat.le_add_right _ _))
        · replace e : (if b = s1.heap.objs.size + 5 then some (.lst ts) else match pairsH xs.length T xs ys b with
            | some u => some u
            | none => H1 b) = some u := e
          by_cases hb : b = s1.heap.objs.size + 5
          · rw [if_pos hb] at e
            cases e
            subst hb
            refine .inr ⟨Nat.le_add_right _ _, ?_⟩
            refine ⟨by rw [tl]; first | exact zs | (rw [← e1]; exact zs), acc.toList, c, ?_, by simpa using hL⟩
            have al : acc.toList.length = xs.length := by rw [Array.length_toList]; exact zp.1
            show Vals ((List.range xs.length).map fun j => V.ref (T j)) acc.toList
            rw [← al]
            refine vals_of_get acc.toList _ fun j u hu => ?_
            have hj : j < xs.length := by
              rw [← al]
              exact (List.getElem?_eq_some_iff.mp hu).1
            obtain ⟨_, _, b1, _⟩ := hT j hj
            have b2 : acc[j]? = some u := by simpa using hu
            rw [b1] at b2
            cases b2
            rfl
          · rw [if_neg hb] at e
            cases z : pairsH xs.length T xs ys b with
            | none =>
              rw [z] at e
              exact .inl e
            | some v =>
              rw [z] at e
              cases e
              obtain ⟨j, hj, rfl, rfl⟩ := pairsH_some z
              obtain ⟨x1, x2, c1, c2, c3, c4, c5⟩ := hT j hj
              refine .inr ⟨Nat.le_trans (Nat.le_add_right _ 6) c5, (by show 2 ≤ sizeLine; decide), [x1, x2], ?_, ⟨_, c4, rfl, _, rfl⟩⟩
              obtain ⟨x, hx⟩ : ∃ x, xs[j]? = some x := ⟨_, List.getElem?_eq_getElem hj⟩
              obtain ⟨y, hy⟩ : ∃ y, ys[j]? = some y := ⟨_, List.getElem?_eq_getElem (show j < ys.length by omega)⟩
              obtain ⟨u, hu, ru⟩ := rv.get hx
              obtain ⟨v, hv, rw2⟩ := rv2.get hy
              rw [c2] at hu
              rw [c3] at hv
              cases hu
              cases hv
              refine .cons ?_ (.cons ?_ .nil)
              · simpa [List.getD_eq_getElem?_getD, hx] using ru
              · simpa [List.getD_eq_getElem?_getD, hy] using rw2
        · have hj : j < xs.length := (List.getElem?_eq_some_iff.mp hx).1
          refine ⟨T j, by simp [ts, hj], I1.hok.fresh (Nat.le_trans (Nat.le_add_right _ 6) (ge j hj)), ?_⟩
          show (if T j = s1.heap.objs.size + 5 then some (.lst ts) else match pairsH xs.length T xs ys (T j) with
            | some u => some u
            | none => H1 (T j)) = _
          rw [if_neg (Nat.ne_of_gt (Nat.lt_of_lt_of_le (Nat.lt_succ_self _) (ge j hj))), pairsH_at inj hj]
          simp [List.getD_eq_getElem?_getD, hx, hy]
end Sz
/-! enumerate(zip(a, b)), both lists empty; suites that are never run -/
namespace Sz
open PySem PySem.Spec PyProof.Rows L2
section
variable {prog : Program} {w : World} {A : Around} {E : Value → Shared → Prop} {s : Shared}
/-- the iterator of an iterator is itself -/
theorem call_enumZ {z TI TO : Addr} {Q : Value → Shared → Prop} (hz : IsZip s.heap z TI TO .none)
    (k : ∀ h', IsEnum h' s.heap.objs.size z 0 .none → (∀ b u, s.heap.get? b = some u → h'.get? b = some u) → Q (.ref s.heap.objs.size) { s with heap := h' }) :
    wpAny (model prog w) A (call (.type "enumerate") [.ref z]) Q E s := by
  have key : Meets (Builtin.«enumerate.__new__» ⟨[.type "enumerate", .ref z], []⟩) (fun _ R s => (∃ TI TO, IsZip s.heap z TI TO .none) ∧ R (.ok (.ret (.ref s.heap.objs.size)))
    { s with heap := s.heap.push { cls := .type "enumerate", data := .fields #[.none, .bool false, .ref z, rawInt 0, .none, .none] } }) := .of_wp fun prog w A R s h => by
    obtain ⟨hp, g, d, tk, os⟩ := s
    obtain ⟨⟨TI, TO, hz⟩, h⟩ := h
    have hsub := sub_enumerate
    have it1 : ∀ {A' : Around} {Ex : Value → Shared → Prop} {Q : Value → Shared → Prop}, Q (.ref z) ⟨hp, g, d, tk, os⟩ → wpAny (model prog w) A' (pyIter (.ref z)) Q Ex ⟨hp, g, d, tk, os⟩ := fun q => wpAny_pyIter_zip hz q
    wp_walk using it1
    refine wpAny_stack_any (fun st => wpAny_pure ?_)
    split
    · rename_i c _ _ _ _ _
      cases (c == Value.type "enumerate") <;> (wp_walk using it1; exact ⟨_, rfl, h⟩)
    · wp_walk using it1
      exact ⟨_, rfl, h⟩
  refine callType_new F.called_enumerate (by decide) (F.typeCall_enumerate_1 _) (F.newCall_enumerate_1 _) (fun obj => F.args_object_init_2 obj _) F.entry_enumerate_new key ⟨⟨TI, TO, hz⟩, ?_⟩
  have e := Heap.get?_push_size s.heap (o := { cls := .type "enumerate", data := .fields #[.none, .bool false, .ref z, rawInt 0, .none, .none] }) rfl
  exact ⟨⟨_, e, rfl⟩, k _ e fun b u x => Heap.get?_push_of_some _ x⟩
/-- the enumeration of an empty zip is over -/
theorem enumZ_done {e z TI TO i1 i2 : Addr} {fp1 fp2 : List Addr} {P1 P2 : Nat → Value → Prop} {St1 St2 : Nat → Heap → Prop} {old a1 a2 : Value} {Q : Option Value → Shared → Prop} (S : ZipSep2 z TI TO i1 i2 fp1 fp2) (D1 : ∀ A : Around, A.handled = none → Draws prog w A i1 fp1 0 P1 St1) (D2 : ∀ A : Around, A.handled = none → Draws prog w A i2 fp2 0 P2 St2) (hh : A.handled = none)
    (he : IsEnum s.heap e z 0 old) (hz : IsZip s.heap z TI TO .none) (hTI : IsTupOf2 s.heap TI (.ref i1) (.ref i2)) (hTO : IsTupOf2 s.heap TO a1 a2) (st1 : St1 0 s.heap) (st2 : St2 0 s.heap)
    (k : ∀ h' tk, (∀ c o, c ≠ z → c ≠ TO → c ≠ i1 → c ≠ i2 → s.heap.get? c = some o → h'.get? c = some o) → Q none { s with heap := h', toks := tk }) : wpAny (model prog w) A (pyNext (.ref e)) Q E s := by
  unfold pyNext
  refine wpAny_bind (wpAny_attempt (wpAny_callSpecial?_slot (name := Str.ofString "__next__") ⟨_, he, rfl⟩ F.slot_enumerate_next (wpAny_call_entry F.slot_enumerate_next ⟨_, he, rfl⟩ F.entry_enumerate_next ?_ (F.args_enumerate_next_1 _))))
  show wpAny _ _ (field (.ref e) 2 >>= _) _ _ s
  refine wpAny_bind (wpAny_field he rfl (x := .ref z) rfl (wpAny_bind ?_))
  have hT : s.TypeIs (.ref z) "zip" := ⟨_, hz, rfl⟩
  unfold Builtin.SmallTypes.nextOf
  refine wpAny_bind (wpAny_callSpecial?_slot (name := Str.ofString "__next__") hT F.slot_zip_next
    (wpAny_call_entry F.slot_zip_next hT F.entry_zip_next (zipD2_next_end S (D1 _ hh) (D2 _ hh) hz hTI hTO st1 st2 (Nat.le_refl _) (Nat.le_refl _) (.inl rfl) fun h' tk x hk ⟨o, ho, hc⟩ => ?_) (F.args_zip_next_1 _)))
  exact wpAny_bind (wpAny_isInstance (T := "StopIteration") (b := true) ⟨o, ho, hc⟩ isSubtype_stop (wpAny_pure (k _ _ hk)))
end
/-- nothing comes -/
def ItNo (K : PySem.W.Frag) (a b : Addr) : It where
  go := fun _ _ => False
  yld := fun _ _ _ _ => False
  stop := fun _ H => SqL K H a [] ∧ SqL K H b []
theorem turn_enumZ {P : Program} {w : World} {K : PySem.W.Frag} {tg : Expr} {a b N : Addr} (la : a < N) (lb : b < N) :
    Turn P w K tg (ItNo K a b) [N + 5, N + 4, N + 2, N + 3, N, N + 1] (N + 5) (fun _ h => (∃ old, IsEnum h (N + 5) (N + 4) 0 old) ∧ IsZip h (N + 4) (N + 2) (N + 3) .none ∧ IsTupOf2 h (N + 2) (.ref N) (.ref (N + 1)) ∧ (∃ x y, IsTupOf2 h (N + 3) x y) ∧ h.IsListIter N a 0 ∧ h.IsListIter (N + 1) b 0) where
  mem := List.mem_cons_self ..
  obj := fun i h ⟨⟨old, he⟩, hz, hTI, ⟨x, y, hTO⟩, ⟨o1, g1, _, d1⟩, ⟨o2, g2, _, d2⟩⟩ c hc => by
    have hc' : c = N + 5 ∨ c = N + 4 ∨ c = N + 2 ∨ c = N + 3 ∨ c = N ∨ c = N + 1 := by simpa using hc
    rcases hc' with z | z | z | z | z | z <;> subst z
    · exact ⟨_, he, fun v q => nomatch q⟩
    · exact ⟨_, hz, fun v q => nomatch q⟩
    · exact ⟨_, hTI, fun v q => nomatch q⟩
    · exact ⟨_, hTO, fun v q => nomatch q⟩
    · exact ⟨o1, g1, fun v q => by rw [d1] at q; cases q⟩
    · exact ⟨o2, g2, fun v q => by rw [d2] at q; cases q⟩
  keep := fun i h h' ⟨⟨old, he⟩, hz, hTI, ⟨x, y, hTO⟩, l1, l2⟩ k => ⟨⟨old, k _ (by simp) _ he⟩, k _ (by simp) _ hz, k _ (by simp) _ hTI, ⟨x, y, k _ (by simp) _ hTO⟩, l1.at fun o q => k _ (by simp) o q, l2.at fun o q => k _ (by simp) o q⟩
  item := fun X _ _ _ _ i pins s σ H E _ _ _ hg => hg.elim
  done := by
    intro X hP hw hK hc i pins s σ H E I hf ⟨⟨old, he⟩, hz, hTI, ⟨x, y, hTO⟩, l1, l2⟩ ⟨ha, hb⟩
    subst hP hw hK
    obtain ⟨its, rv, p1, _⟩ := I.list ha
    obtain ⟨its2, rv2, p2, _⟩ := I.list hb
    cases rv
    cases rv2
    refine enumZ_done (fp1 := [N, a]) (fp2 := [N + 1, b]) (P1 := fun i v => (#[] : Array Value)[i]? = some v) (P2 := fun i v => (#[] : Array Value)[i]? = some v) (St1 := fun i h => h.IsListIter N a i ∧ h.IsList a #[]) (St2 := fun i h => h.IsListIter (N + 1) b i ∧ h.IsList b #[])
      (zip_sep2 (N := N) (fp1 := [a]) (fp2 := [b]) (by simpa using la) (by simpa using lb)) (fun A hA => Draws.list hA _ a (Nat.ne_of_lt la) #[]) (fun A hA => Draws.list hA _ b (Nat.ne_of_lt (Nat.lt_succ_of_lt lb)) #[]) (I.ok.hd hc) he hz hTI hTO ⟨l1, p1.isList⟩ ⟨l2, p2.isList⟩ fun h' tk hk => ⟨rfl, ?_⟩
    exact I.turnedL (t' := tk) (ch := [N + 5, N + 4, N + 2, N + 3, N, N + 1]) (fun c o hb q => hk c o (fun q' => hb (by simp [q'])) (fun q' => hb (by simp [q'])) (fun q' => hb (by simp [q'])) (fun q' => hb (by simp [q'])) q) hf
  self := fun A i s Q E ⟨⟨_, he⟩, _⟩ h => wpAny_pyIter_enum he h
def iEnumZ (K : PySem.W.Frag) (ta : TA) : TI := fun σ H R => ta σ H fun vs H1 => ∃ a b, vs = [.ref a, .ref b] ∧ SqL K H1 a [] ∧ SqL K H1 b [] ∧ R (ItNo K a b) H1
theorem pi_enumZ {X : Cx} {tg e e2 : Expr} {ta : TA} {p p2 pos pos2 : Pos} (hge : Gl X "enumerate") (hme : X.mg "enumerate" = none) (hg : Gl X "zip") (hm : X.mg "zip" = none) (ha : PA X [e, e2] ta)
    (hs : starEach [e, e2] X.env = (false, eval e X.env) :: starEach [e2] X.env := by rfl) (hpl : (backTo pos2 (starEach [e2] X.env)).any (·.1) = false := by rfl)
    (na : starEach [.Call (.Name "zip" p2) [e, e2] [] pos2] X.env = (false, eval (.Call (.Name "zip" p2) [e, e2] [] pos2) X.env) :: starEach [] X.env := by rfl) :
    PI X tg (.Call (.Name "enumerate" p) [.Call (.Name "zip" p2) [e, e2] [] pos2] [] pos) (iEnumZ X.K ta) := by
  refine ⟨fun pins s σ H R I h => ?_⟩
  refine Call_ (ld_blt I hge hme boot_enumerate (PyProof.Rows.callWith_type1 (args_cons ?_ na) na))
  refine Call_ (ld_blt I hg hm PyProof.Rows.boot_zip (PyProof.Rows.callWith_type1 (thn (ha.run pos2 pins s σ H _ I h) fun us s1 ⟨vs, H1, I1, r1, q1⟩ => ?_) hs hpl))
  obtain ⟨a, b, ex, hqx, hqy, q⟩ := q1
  subst ex
  cases r1 with
  | cons r rr =>
    cases rr with
    | cons r' rr =>
      cases rr
      cases r
      cases r'
      obtain ⟨its, rv, p1, zs⟩ := I1.list hqx
      obtain ⟨its2, rv2, p2', _⟩ := I1.list hqy
      have la : a < s1.heap.objs.size := p1.lt
      have lb : b < s1.heap.objs.size := p2'.lt
      refine zip_begins2 (begins_list a its.toArray) (begins_list b its2.toArray) p1.isList p2'.isList fun h1 hz hTI hTO g1 g2 hsz hk => args_nil ?_
      refine call_enumZ (s := { s1 with heap := h1 }) hz fun h2 he hk2 => ?_
      rw [show ({ s1 with heap := h1 } : Shared).heap.objs.size = s1.heap.objs.size + 5 from hsz] at he ⊢
      refine wpAny_pyIter_enum he ?_
      have up := fun b u x => hk2 b u (hk b u x)
      refine ⟨s1.heap.objs.size + 5, _, _, _, H1, rfl, I1.kept (t' := s1.toks) up, turn_enumZ la lb, ⟨⟨_, he⟩, hk2 _ _ hz, hk2 _ _ hTI, ⟨_, _, hk2 _ _ hTO⟩, ⟨_, hk2 _ _ g1, rfl, rfl⟩, ⟨_, hk2 _ _ g2, rfl, rfl⟩⟩, fun c hcm => ?_, q⟩
      have hle : s1.heap.objs.size ≤ c := by
        have hc' : c = s1.heap.objs.size + 5 ∨ c = s1.heap.objs.size + 4 ∨ c = s1.heap.objs.size + 2 ∨ c = s1.heap.objs.size + 3 ∨ c = s1.heap.objs.size ∨ c = s1.heap.objs.size + 1 := by simpa using hcm
        rcases hc' with z | z | z | z | z | z <;> rw [z]
        · exact Nat.le_add_right _ _
        · exact Nat.le_add_right _ _
        · exact Nat.le_add_right _ _
        · exact Nat.le_add_right _ _
        · exact Nat.le_refl _
        · exact Nat.le_add_right _ _
      exact I1.fpOk hle (I1.hok.fresh hle)
/-- a suite, a target that are never come to -/
theorem pss_no {X : Cx} {l : List Stmt} : PSs X l (fun _ _ _ => False) := ⟨fun _ _ _ _ _ _ h => h.elim⟩
theorem pg_no {X : Cx} {tg : Expr} : PG X tg (fun _ _ _ _ => False) := ⟨fun _ _ _ _ _ _ _ _ _ h => h.elim⟩
end Sz
/-! with e as y: a suite that raises nothing, e an instance with its own __enter__ and __exit__ -/
namespace Sz
open PySem PySem.Spec PyProof.Rows L2
/-- what __exit__ does stands ahead of all ends -/
def exD (sp2 : Sp) (x : Addr) (D : Ends) : Ends :=
  { nx := fun σ H => sp2 [.ref x, .non, .non, .non] H (fun _ H' => D.nx σ H') E0
    bk := fun σ H => sp2 [.ref x, .non, .non, .non] H (fun _ H' => D.bk σ H') E0
    ct := fun σ H => sp2 [.ref x, .non, .non, .non] H (fun _ H' => D.ct σ H') E0
    rt := fun v H => sp2 [.ref x, .non, .non, .non] H (fun _ H' => D.rt v H') E0 }
def tWith (C : Addr) (i : Nat) (te : TE) (sp1 sp2 : Sp) (tb : TS) : TS := fun D σ H => te σ H fun v H1 => ∃ (x dx : Addr) (fs : List (Str × V)), v = .ref x ∧ H1 x = some (.ins C dx fs) ∧ sp1 [.ref x] H1 (fun u H2 => tb (exD sp2 x D) (σ.set i (some u)) H2) E0
section
variable {X : Cx} {C y : Str} {i k1 k2 : Nat} {ctx : Expr} {te : TE} {body : List Stmt} {tb : TS} {sp1 sp2 : Sp} {ps1 ps2 : List Str} {py pos : Pos}
theorem ps_with (G1 : PromM X.prog X.w X.K X.mg X.base CX0 k1 C "__enter__" ps1 sp1) (G2 : PromM X.prog X.w X.K X.mg X.base CX0 k2 C "__exit__" ps2 sp2) (hr1 : Room k1 X.A) (hr2 : Room k2 X.A) (hN : X.N.Nodup) (hi : X.N[i]? = some y) (hx : Loc X.env.scope y)
    (he : PE X ctx te) (hb : PSs X.nox body tb) (hf : X.fn y = true ∨ X.env.scope.names.lookup y = some .local := by first | exact .inl rfl | exact .inr rfl | assumption) : PS X (.With [⟨ctx, some (.Name y py)⟩] body pos) (tWith (He.ga X.K C) i te sp1 sp2 tb) := by
  refine ⟨fun pins s σ H D I h => ?_⟩
  refine PySem.W.kw_execN (thn (he.run pins s σ H _ I h) fun v s1 ⟨xv, H1, I1, r1, q1⟩ => ?_)
  obtain ⟨x, dx, fs, rfl, hl, q⟩ := q1
  obtain rfl : v = Value.ref x := r1
  obtain ⟨mA, O, r, _, _, _⟩ := ins_get I1.hok hl
  obtain ⟨od, J0, _⟩ := O.look
  obtain ⟨fd1, F1, b1⟩ := G1.ex
  obtain ⟨fd2, F2, b2⟩ := G2.ex
  show wpAny (model X.prog X.w) X.A (withItem false ctx.pos X.env (pure (.ref x)) (some (assign (.Name y py) X.env)) (execs body X.env)) (SP X pins D) X.xe s1
  refine PySem.W.kw_core (b := assign (.Name y py) X.env) I1.kIn J0 G1.me.at_ G1.me.fn G2.me.at_ G2.me.fn ?_
  refine wpAny_mono (run_fn (us := [.ref x]) (vs := [.ref x]) F1 hr1 b1 .nil pass0 I1 (.cons rfl .nil) q) (fun u s2 z => ?_) (fun _ _ z => z)
  obtain ⟨uv, H2, I2, ru, q2⟩ := z
  refine wpAny_assign_Name (store_ok I2 hN hi hx ru (fun s3 I3 => ?_) hf)
  refine wpAny_mono (hb.run pins s3 _ H2 _ (I3.wish _) q2) (fun f s4 z => ?_) (fun _ _ z => z)
  have out : ∀ {σ' : L2.St} {H' : Hp} {W : V → Hp → Prop}, Inv (X.wish fun _ _ => False) pins σ' H' s4 → sp2 [.ref x, .non, .non, .non] H' W E0 → wpAny (model X.prog X.w) X.A (call (.ref (He.ma X.K (He.ga X.K C) "__exit__")) [.ref x, .none, .none, .none]) (EP X pins σ' W) X.xe s4 := fun {σ' H' W} J q3 =>
    run_fn (us := [.ref x, .none, .none, .none]) (vs := [.ref x, .non, .non, .non]) F2 hr2 b2 .nil pass0 J.unwish (.cons rfl (.cons rfl (.cons rfl (.cons rfl .nil)))) q3
  cases f with
  | next =>
    obtain ⟨σ', H', J, q3⟩ := z
    exact thn (out J q3) fun _ s5 ⟨_, H5, I5, _, q5⟩ => ⟨σ', H5, I5, q5⟩
  | brk =>
    obtain ⟨σ', H', J, q3⟩ := z
    exact thn (out J q3) fun _ s5 ⟨_, H5, I5, _, q5⟩ => ⟨σ', H5, I5, q5⟩
  | cont =>
    obtain ⟨σ', H', J, q3⟩ := z
    exact thn (out J q3) fun _ s5 ⟨_, H5, I5, _, q5⟩ => ⟨σ', H5, I5, q5⟩
  | ret u =>
    obtain ⟨v, σ', H', J, rv, q3⟩ := z
    exact thn (out J q3) fun _ s5 ⟨_, H5, I5, _, q5⟩ => ⟨v, σ', H5, I5, rv, q5⟩
end
end Sz
/-! a function made within a def is handed to a def of the text, which calls it -/
namespace Sz
open PySem PySem.Spec PyProof.Rows L2 NdefX LamX
section
variable {X : Cx} {pins : List (Addr × Obj)} {σ : L2.St} {H : Hp} {s : Shared}
/-- a frame's cells are no frames -/
theorem cells_nf (I : Inv X pins σ H s) (hfn : ∀ x, X.fn x = true) : ∀ y c, X.env.cells.lookup y = some c → c ∉ frs X.stack := by
  intro y c e hm
  have h1 := I.ok.cab y c (hfn y) e
  have out : c ∉ frs X.outer := fun z => by
    obtain ⟨_, o, ho, _⟩ := I.ok.funs.mem z
    exact Nat.lt_irrefl _ (Nat.lt_of_lt_of_le (Heap.lt_size ho) h1)
  rcases I.ok.stk with h | ⟨h, hf⟩
  · rw [h] at hm
    exact out hm
  · rw [h] at hm
    unfold frs at hm
    rw [List.filterMap_cons, hf] at hm
    rcases List.mem_cons.mp hm with z | z
    · exact I.cne y c e z
    · exact out z
end
/-- what a function captured, told at a call -/
structure CapAt (F : NF) (fr : List Str) (ws : List (Option V)) (outer : List Env) (h : Heap) (H : Hp) : Prop where
  cells : CellsAt F.cl fr ws h H
  nf : ∀ y c, F.cl.lookup y = some c → c ∉ frs outer
/-- the promise of the function F at f, where nothing is being shown: sp ws, ws what its captured cells hold at the call -/
structure NOkG (P : Program) (w : World) (K : PySem.W.Frag) (mg : Str → Option Value) (base : Heap) (k : Nat) (f : Addr) (F : NF) (ps fr : List Str) (sp : List (Option V) → Sp) : Prop where
  len : ∀ ws vs H Q E, sp ws vs H Q E → vs.length = ps.length
  run : ∀ (A : Around) (outer : List Env) (s : Shared) (H : Hp) (us : List Value) (vs : List V) (ws : List (Option V)) (Q : VK) (E : XK), Room k A → A.guards = some [] → Env0 P w K mg base A outer s H → H f = some (FnO f F) → H F.c = some (CodeO F.c F.qual) →
    CellsAt F.cl fr ws s.heap H → Vals vs us → sp ws vs H Q E → codeAny (model P w) A (.call (.ref f) ⟨us, []⟩) (CR CX0 outer P w H s Q E) s
section
variable {P : Program} {w : World} {K : PySem.W.Frag} {mg : Str → Option Value} {base : Heap} {N ps fr : List Str} {F : NF} {f : Addr} {k : Nat} {sp : List (Option V) → Sp}
theorem nokG_of (S : NScope N ps fr F.scope) (hb : ∀ (doc pm ctv : Value) (us : List Value), us.length = ps.length → bindArgs (F.fd doc pm ctv) ⟨us, []⟩ = pure (ps.zip us)) (len : ∀ ws vs H Q E, sp ws vs H Q E → vs.length = ps.length)
    (hbody : ∀ (A : Around) (outer : List Env) (s : Shared) (H : Hp) (vs : List V) (ws : List (Option V)) (Q : VK) (E : XK), Room k (A.deeper (envF F f s.heap.objs.size)) → (A.deeper (envF F f s.heap.objs.size)).guards = some [] → H f = some (FnO f F) → H F.c = some (CodeO F.c F.qual) → ws.length = fr.length → sp ws vs H Q E →
      ∃ t, PSs (ncx CX0 P w K mg base N F f A outer s H E).nox F.body t ∧ t { nx := fun _ H' => Q .non H', rt := Q } (startF N vs ws) H) :
    NOkG P w K mg base (k + 1) f F ps fr sp := by
  refine ⟨len, fun A outer s H us vs ws Q E room shown e0 atF atC caught rel want => ?_⟩
  have many : us.length = ps.length := by rw [← rel.length]; exact len _ _ _ _ _ want
  obtain ⟨d1, d2, d3, d4, d5, there⟩ := fnO_at e0.hok atF
  have noLimit : s.heap.NoLimit := e0.mod.nolimit.keeps fun b o z => (e0.bs b o z).1
  obtain ⟨t, dt, rt⟩ := hbody A outer s H vs ws Q E (room.deeper _) shown atF atC caught.len want
  have dt := dt.nox
  refine codeAny_call_function room.depth there rfl S.co S.gen rfl (codeO_at e0.hok atC) ?_
  rw [hb d3 d4 d5 us many]
  have pars : ∀ z ∈ ps.zip us, F.scope.names.lookup z.1 = some .local := by
    rintro ⟨n, v⟩ hz
    exact S.par n (List.of_mem_zip hz).1
  refine wpAny_pure (wpAny_newFunctionEnv S.nocell pars (fun heap1 names only => ⟨noLimit.fresh _ only, ?_⟩) S.kind)
  have stays : ∀ b o, s.heap.get? b = some o → heap1.get? b = some o := by
    intro b o z
    exact only.extBut b o (Nat.ne_of_lt (Heap.lt_size z)) (Heap.get?_push_of_some _ z)
  show codeAny (model P w) _ (.func F.body (envF F f s.heap.objs.size)) _ _
  refine codeAny_func (wpAny_mono (dt.run [] _ (startF N vs ws) H _ (inv_startN S room.hd e0 (len _ _ _ _ _ want) rel caught names stays) rt) ?_ (fun _ _ z => z))
  intro fl s' hs
  cases fl with
  | ret u => exact let ⟨v, _, H', J, rv, qv⟩ := hs; ⟨v, H', J.os, J.bare, J.base, J.hok, rv, qv⟩
  | next => exact let ⟨_, H', J, qv⟩ := hs; ⟨.non, H', J.os, J.bare, J.base, J.hok, rfl, qv⟩
  | brk => exact let ⟨_, _, _, qv⟩ := hs; False.elim qv
  | cont => exact let ⟨_, _, _, qv⟩ := hs; False.elim qv
end
/-- a def's promise, where Cl tells of the heap at the call -/
structure FnH (P : Program) (w : World) (K : PySem.W.Frag) (mg : Str → Option Value) (base : Heap) (k : Nat) (f : Addr) (fd : FuncData) (ps : List Str) (Cl : List Env → Heap → Hp → Prop) (sp : Sp) : Prop where
  len : ∀ vs H Q E, sp vs H Q E → vs.length = ps.length
  run : ∀ (A : Around) (outer : List Env) (s : Shared) (H : Hp) (args : Args) (us : List Value) (vs : List V) (Q : VK) (E : XK), Room k A → A.guards = some [] → Env0 P w K mg base A outer s H → BindsTo s fd args (ps.zip us) → Vals vs us → Cl outer s.heap H → sp vs H Q E →
    codeAny (model P w) A (.call (.ref f) args) (CR CX0 outer P w H s Q E) s
structure PromH (P : Program) (w : World) (K : PySem.W.Frag) (mg : Str → Option Value) (base : Heap) (k : Nat) (x : Str) (st : Stmt) (ps : List Str) (Cl : List Env → Heap → Hp → Prop) (sp : Sp) : Prop where
  ex : ∃ f fd, FnH P w K mg base k f fd ps Cl sp ∧ mg x = some (.ref f) ∧ FunD K x x (defArgs st) (defBody st) (defScope st) [] [] f fd ∧ Binds K fd ps []
section
variable {P : Program} {w : World} {K : PySem.W.Frag} {mg : Str → Option Value} {base : Heap}
theorem PromH.of {x : Str} {st : Stmt} {ps N : List Str} {sp : Sp} {Cl : List Env → Heap → Hp → Prop} {k : Nat} (D : DefAt K mg x st) (S : FnScope N ps (defScope st)) (len : ∀ vs H Q E, sp vs H Q E → vs.length = ps.length)
    (hb : ∀ (kV doc pm : Value) (an : Option Addr) (cdv ct : Value) (us : List Value), us.length = ps.length → bindArgs (PySem.W.fnOf x x (defArgs st) (defBody st) (defScope st) .none kV doc pm an cdv ct) ⟨us, []⟩ = pure (ps.zip us))
    (hbody : ∀ (f : Addr) (cdv : Value) (A : Around) (outer : List Env) (s : Shared) (H : Hp) (vs : List V) (Q : VK) (E : XK), Room k (A.deeper (envOfC x (defScope st) s.heap.objs.size f cdv)) → (A.deeper (envOfC x (defScope st) s.heap.objs.size f cdv)).guards = some [] → Cl outer s.heap H → sp vs H Q E →
      ∃ t, PSs (cxOf CX0 P w K mg base N x (defScope st) f cdv A outer s H E).nox (defBody st) t ∧ t { nx := fun _ H' => Q .non H', rt := Q } (start N vs) H) :
    PromH P w K mg base (k + 1) x st ps Cl sp := by
  obtain ⟨f, fd, F, hm⟩ := D
  have hB := F.bindsN hb
  obtain ⟨oc, od, dV, kV, doc, pm, an, cdv, ct, osl, rfl, lk, hcd, _, _⟩ := id F.ex
  refine ⟨f, _, ⟨len, fun A outer s H args us vs Q E room shown e0 hbind rel told want => ?_⟩, hm, F, hB⟩
  have old : ∀ b o, base.get? b = some o → s.heap.get? b = some o := fun b o e => (e0.bs b o e).1
  have inK : K.In s.heap := e0.mod.kin.keeps old
  have kinds : ∀ y ∈ ps.zip us, (defScope st).names.lookup y.1 = some .local ∨ ((defScope st).names.lookup y.1 = some .cell ∧ ((cellsFrom (s.heap.objs.size + 1) (defScope st).names []).lookup y.1).isSome = true) := by
    rintro ⟨n, v⟩ hy
    have hm : n ∈ ps := (List.of_mem_zip hy).1
    cases S.par n hm with
    | inl z => exact Or.inl z
    | inr z => exact Or.inr ⟨z, PySem.W.cellsFrom_some _ _ _ (.inl z)⟩
  obtain ⟨t, dt, rt⟩ := hbody f cdv A outer s H vs Q E (room.deeper _) shown told want
  have dt := dt.nox
  refine codeAny_call_function room.depth (inK _ _ lk) rfl S.co S.gen rfl (PySem.W.codeRec_of inK hcd) ?_
  refine hbind _ _ _ _ (wpAny_newFunctionEnv_cells S.kind kinds ?_)
  rintro _ rfl s1 ic
  refine ⟨(e0.mod.nolimit.keeps old).keeps ic.toInCall.keep, codeAny_func ?_⟩
  refine wpAny_mono (dt.run [] s1 (start N vs) H _ (inv_start S room.hd e0 (len _ _ _ _ want) rel ic) rt) ?_ (fun _ _ z => z)
  intro fl s' hs
  cases fl with
  | ret u => exact let ⟨v, _, H', J, rv, qv⟩ := hs; ⟨v, H', J.os, J.bare, J.base, J.hok, rv, qv⟩
  | next => exact let ⟨_, H', J, qv⟩ := hs; ⟨.non, H', J.os, J.bare, J.base, J.hok, rfl, qv⟩
  | brk => exact let ⟨_, _, _, qv⟩ := hs; False.elim qv
  | cont => exact let ⟨_, _, _, qv⟩ := hs; False.elim qv
end
section
variable {X : Cx} {k j i : Nat} {x : Str} {st : Stmt} {ps psF fr : List Str} {e : Expr} {es : List Expr} {t : TA} {p pos : Pos} {F : NF} {g : Addr} {ws : List (Option V)} {spF : List (Option V) → Sp}
/-- the function that was handed in is called -/
def tAct (i : Nat) (g : Addr) (F : NF) (ws : List (Option V)) (spF : List (Option V) → Sp) (t : TA) : TE := fun σ H Q => σ[i]? = some (some (.ref g)) ∧ H g = some (FnO g F) ∧
  t σ H fun vs H1 => H1 g = some (FnO g F) ∧ H1 F.c = some (CodeO F.c F.qual) ∧ spF ws vs H1 Q E0
theorem pe_act (C : CapAt F fr ws X.outer X.s_0.heap X.H_0) (hex : X.ex = []) (Fn : NOkG X.prog X.w X.K X.mg X.base k g F psF fr spF) (gd : X.A.guards = some []) (hr : Room j X.A) (hk : k ≤ j) (hN : X.N[i]? = some x) (hv : Vis X.env.scope x) (ha : PA X (e :: es) t)
    (hd : (x == ("__debug__" : Str)) = false := by decide) (hcd : (x == ("__classdict__" : Str)) = false := by decide)
    (he : starEach (e :: es) X.env = (false, eval e X.env) :: starEach es X.env := by rfl) (hpl : (backTo pos (starEach es X.env)).any (·.1) = false := by rfl) :
    PE X (.Call (.Name x p) (e :: es) [] pos) (tAct i g F ws spF t) := by
  refine ⟨fun pins s σ H Q I h => ?_⟩
  obtain ⟨hs, hf, ht⟩ := h
  refine wpAny_Call_Name_kw (thn ((pe_var (pos := p) hN hv hd hcd).run pins s σ H (fun v H1 => v = .ref g ∧ H1 = H) I ⟨.ref g, hs, rfl, rfl⟩) fun u s1 ⟨v, H1, I1, r1, q1⟩ => ?_)
  obtain ⟨ev, eH⟩ := q1
  subst ev
  rw [eH] at I1
  obtain rfl : u = Value.ref g := r1
  refine PySem.W.callWith_F (first := []) (fnAt_of I1 hf) (thn (ha.run pos pins s1 σ H _ I1 ht) fun us s2 ⟨vs, H2, I2, r, h1, h2, q⟩ => ⟨fnAt_of I2 h1, ?_⟩) he hpl
  show wpAny _ _ (call (.ref g) us) _ _ _
  have C2 : CellsAt F.cl fr ws s2.heap H2 := C.cells.later C.nf (fun y c _ => by rw [hex]; exact fun z => by cases z) I2
  refine wpAny_call (codeAny_mono (Fn.run X.A X.stack s2 H2 us vs ws Q E0 (hr.mono hk) gd I2.env0 h1 h2 C2 r q) fun r s' hq => ?_)
  cases r with
  | error e => exact False.elim hq
  | ok fl =>
    cases fl with
    | ret u => exact I2.after hq
    | next => exact False.elim hq
    | brk => exact False.elim hq
    | cont => exact False.elim hq
/-- x(.., f, ..), f made here by mk -/
def tCallH (js : List Nat) (sp : Addr → Addr → List (Option V) → Sp) (t : TA) : TE := fun σ H Q => t σ H fun vs H1 => ∃ g c', sp g c' (js.map (slotAt σ)) vs H1 Q E0
theorem pe_callH {mk : Addr → NF} {cl : List (Str × Addr)} {js : List Nat} {sp : Addr → Addr → List (Option V) → Sp} (G : ∀ g c' ws, PromH X.prog X.w X.K X.mg X.base k x st ps (CapAt (mk c') fr ws) (sp g c' ws)) (hcl : ∀ c', (mk c').cl = cl) (cp : X.Ok → Caps X cl fr js) (hfn : ∀ x, X.fn x = true)
    (gd : X.A.guards = some []) (hr : Room k X.A) (hg : Gl X x) (ha : PA X (e :: es) t)
    (hdb : (x == ("__debug__" : Str)) = false := by decide) (he : starEach (e :: es) X.env = (false, eval e X.env) :: starEach es X.env := by rfl) (hpl : (backTo pos (starEach es X.env)).any (·.1) = false := by rfl) :
    PE X (.Call (.Name x p) (e :: es) [] pos) (tCallH js sp t) := by
  refine ⟨fun pins s σ H Q I h => ?_⟩
  obtain ⟨f, fd, _, hm, D, _⟩ := (G 0 0 []).ex
  refine wpAny_Call_Name_kw (ld_glob I hg hm ?_ hdb)
  refine PySem.W.callWith_K (h₀ := X.base) I.ok.mod.kin D.kp (thn (ha.run pos pins s σ H _ I h) fun us s1 ⟨vs, H1, I1, r, q⟩ => ⟨I1.kIn, ?_⟩) he hpl
  obtain ⟨g, c', q⟩ := q
  obtain ⟨f2, fd2, F2, hm2, D2, hb⟩ := (G g c' (js.map (slotAt σ))).ex
  rw [hm] at hm2
  obtain rfl : f = f2 := by
    injection hm2 with z
    injection z
  have C := cells_of I1 (cp I1.ok)
  have nf := cells_nf I1 hfn
  have hc : CapAt (mk c') fr (js.map (slotAt σ)) X.stack s1.heap H1 := ⟨by rw [hcl c']; exact C, fun y c e => nf y c ((cp I1.ok).sub y c (by rw [← hcl c']; exact e))⟩
  have hl : us.length = ps.length := by rw [← r.length]; exact F2.len _ _ _ _ q
  have hbt := hb s1 us I1.kIn (by simpa using hl)
  rw [List.append_nil] at hbt
  refine wpAny_call (codeAny_mono (F2.run X.A X.stack s1 H1 ⟨us, []⟩ us vs Q E0 hr gd I1.env0 hbt r hc q) fun r s' hq => ?_)
  cases r with
  | error e => exact False.elim hq
  | ok fl =>
    cases fl with
    | ret u => exact I1.after hq
    | next => exact False.elim hq
    | brk => exact False.elim hq
    | cont => exact False.elim hq
end
end Sz
set_option maxHeartbeats 400000
set_option pp.maxSteps 900
namespace Sz
open PySem PySem.Spec PyProof.Rows L2
def top (i : Nat) : Stmt := PySem.Challenge.pw_sizestacks_k53_whole_roads_replayed.main.body.getD i (.Pass ⟨0, 0, 0, 0⟩)
abbrev s__wall : Stmt := top 0
theorem sc__wall : FnScope ["k"] ["k"] (defScope s__wall) := ⟨rfl, rfl, rfl, by decide +kernel, rfl, by decide +kernel, by decide +kernel⟩
abbrev s_is_integer : Stmt := top 27
theorem sc_is_integer : FnScope ["value"] ["value"] (defScope s_is_integer) := ⟨rfl, rfl, rfl, by decide +kernel, rfl, by decide +kernel, by decide +kernel⟩
abbrev s_is_between : Stmt := top 28
theorem sc_is_between : FnScope ["value", "least", "most"] ["value", "least", "most"] (defScope s_is_between) := ⟨rfl, rfl, rfl, by decide +kernel, rfl, by decide +kernel, by decide +kernel⟩
abbrev s_check_length : Stmt := top 29
theorem sc_check_length : FnScope ["value"] ["value"] (defScope s_check_length) := ⟨rfl, rfl, rfl, by decide +kernel, rfl, by decide +kernel, by decide +kernel⟩
abbrev s_check_base : Stmt := top 30
theorem sc_check_base : FnScope ["value"] ["value"] (defScope s_check_base) := ⟨rfl, rfl, rfl, by decide +kernel, rfl, by decide +kernel, by decide +kernel⟩
abbrev s_figures_of : Stmt := top 31
theorem sc_figures_of : FnScope ["length", "base", "count", "power", "eight", "turn"] ["length", "base"] (defScope s_figures_of) := ⟨rfl, rfl, rfl, by decide +kernel, rfl, by decide +kernel, by decide +kernel⟩
abbrev s_amount_of : Stmt := top 32
theorem sc_amount_of : FnScope ["word", "amount", "sign"] ["word"] (defScope s_amount_of) := ⟨rfl, rfl, rfl, by decide +kernel, rfl, by decide +kernel, by decide +kernel⟩
abbrev s_fault_in : Stmt := top 37
theorem sc_fault_in : FnScope ["kind", "numbers", "index", "least", "most"] ["kind", "numbers"] (defScope s_fault_in) := ⟨rfl, rfl, rfl, by decide +kernel, rfl, by decide +kernel, by decide +kernel⟩
abbrev s_begun : Stmt := top 38
theorem sc_begun : FnScope ["length", "whole"] ["length", "whole"] (defScope s_begun) := ⟨rfl, rfl, rfl, by decide +kernel, rfl, by decide +kernel, by decide +kernel⟩
abbrev s_total_of : Stmt := top 39
theorem sc_total_of : FnScope ["length", "base", "figures"] ["length", "base"] (defScope s_total_of) := ⟨rfl, rfl, rfl, by decide +kernel, rfl, by decide +kernel, by decide +kernel⟩
abbrev s_Wrap___init__ : Stmt := inClass (top 40) 0
theorem sc_Wrap___init__ : FnScope ["self", "kind", "numbers", "fault", "number"] ["self", "kind", "numbers"] (defScope s_Wrap___init__) := ⟨rfl, rfl, rfl, by decide +kernel, rfl, by decide +kernel, by decide +kernel⟩
abbrev s_Wrap_grown : Stmt := inClass (top 40) 2
theorem sc_Wrap_grown : FnScope ["self", "length", "base", "first", "last"] ["self", "length", "base"] (defScope s_Wrap_grown) := ⟨rfl, rfl, rfl, by decide +kernel, rfl, by decide +kernel, by decide +kernel⟩
abbrev s_Wrap___str__ : Stmt := inClass (top 40) 5
theorem sc_Wrap___str__ : FnScope ["self"] ["self"] (defScope s_Wrap___str__) := ⟨rfl, rfl, rfl, by decide +kernel, rfl, by decide +kernel, by decide +kernel⟩
abbrev s_in_pieces : Stmt := top 41
theorem sc_in_pieces : FnScope ["length", "most", "constant", "base", "size", "rest"] ["length", "most", "constant", "base"] (defScope s_in_pieces) := ⟨rfl, rfl, rfl, by decide +kernel, rfl, by decide +kernel, by decide +kernel⟩
abbrev s_wrap_in : Stmt := top 42
theorem sc_wrap_in : FnScope ["text", "words", "kind", "numbers", "word"] ["text"] (defScope s_wrap_in) := ⟨rfl, rfl, rfl, by decide +kernel, rfl, by decide +kernel, by decide +kernel⟩
abbrev s_check_wrap : Stmt := top 43
theorem sc_check_wrap : FnScope ["value"] ["value"] (defScope s_check_wrap) := ⟨rfl, rfl, rfl, by decide +kernel, rfl, by decide +kernel, by decide +kernel⟩
abbrev s_fineness_of : Stmt := top 45
theorem sc_fineness_of : FnScope ["wraps", "product", "wrap"] ["wraps"] (defScope s_fineness_of) := ⟨rfl, rfl, rfl, by decide +kernel, rfl, by decide +kernel, by decide +kernel⟩
abbrev s_check_wraps : Stmt := top 46
theorem sc_check_wraps : FnScope ["values", "most", "index", "value"] ["values", "most"] (defScope s_check_wraps) := ⟨rfl, rfl, rfl, by decide +kernel, rfl, by decide +kernel, by decide +kernel⟩
abbrev s_Stack___init__ : Stmt := inClass (top 47) 0
theorem sc_Stack___init__ : FnScope ["self", "base", "wraps", "fineness"] ["self", "base", "wraps"] (defScope s_Stack___init__) := ⟨rfl, rfl, rfl, by decide +kernel, rfl, by decide +kernel, by decide +kernel⟩
abbrev s_Stack_grown : Stmt := inClass (top 47) 2
theorem sc_Stack_grown : FnScope ["self", "length", "wrap"] ["self", "length"] (defScope s_Stack_grown) := ⟨rfl, rfl, rfl, by decide +kernel, rfl, by decide +kernel, by decide +kernel⟩
abbrev s_Stack___len__ : Stmt := inClass (top 47) 9
theorem sc_Stack___len__ : FnScope ["self"] ["self"] (defScope s_Stack___len__) := ⟨rfl, rfl, rfl, by decide +kernel, rfl, by decide +kernel, by decide +kernel⟩
abbrev s_Stack___str__ : Stmt := inClass (top 47) 11
theorem sc_Stack___str__ : FnScope ["self", "wrap"] ["self"] (defScope s_Stack___str__) := ⟨rfl, rfl, rfl, by decide +kernel, rfl, by decide +kernel, by decide +kernel⟩
abbrev s_stack_in : Stmt := top 48
theorem sc_stack_in : FnScope ["text", "rows", "word", "gap", "rest", "base", "wraps", "row"] ["text"] (defScope s_stack_in) := ⟨rfl, rfl, rfl, by decide +kernel, rfl, by decide +kernel, by decide +kernel⟩
abbrev s_greatest_within : Stmt := top 50
theorem sc_greatest_within : FnScope ["stack", "bound", "low", "high", "middle"] ["stack", "bound"] (defScope s_greatest_within) := ⟨rfl, rfl, rfl, by decide +kernel, rfl, by decide +kernel, by decide +kernel⟩
abbrev s_is_deed : Stmt := top 54
theorem sc_is_deed : FnScope ["value"] ["value"] (defScope s_is_deed) := ⟨rfl, rfl, rfl, by decide +kernel, rfl, by decide +kernel, by decide +kernel⟩
abbrev s_stack_behind : Stmt := top 55
theorem sc_stack_behind : FnScope ["base", "steps", "wraps", "step"] ["base", "steps"] (defScope s_stack_behind) := ⟨rfl, rfl, rfl, by decide +kernel, rfl, by decide +kernel, by decide +kernel⟩
abbrev s_sizes_along : Stmt := top 56
theorem sc_sizes_along : FnScope ["base", "steps", "length", "found", "inner", "step", "size"] ["base", "steps", "length"] (defScope s_sizes_along) := ⟨rfl, rfl, rfl, by decide +kernel, rfl, by decide +kernel, by decide +kernel⟩
abbrev s_reaches : Stmt := top 57
theorem sc_reaches : FnScope ["base", "steps", "found", "place", "step", "most"] ["base", "steps"] (defScope s_reaches) := ⟨rfl, rfl, rfl, by decide +kernel, rfl, by decide +kernel, by decide +kernel⟩
abbrev s_least_reach : Stmt := top 58
theorem sc_least_reach : FnScope ["pairs", "place", "most"] ["pairs"] (defScope s_least_reach) := ⟨rfl, rfl, rfl, by decide +kernel, rfl, by decide +kernel, by decide +kernel⟩
abbrev s_check_free : Stmt := top 59
theorem sc_check_free : FnScope ["road"] ["road"] (defScope s_check_free) := ⟨rfl, rfl, rfl, by decide +kernel, rfl, by decide +kernel, by decide +kernel⟩
abbrev s_check_push : Stmt := top 60
theorem sc_check_push : FnScope ["stack", "wrap"] ["stack", "wrap"] (defScope s_check_push) := ⟨rfl, rfl, rfl, by decide +kernel, rfl, by decide +kernel, by decide +kernel⟩
abbrev s_add_step : Stmt := top 61
theorem sc_add_step : FnScope ["road", "step"] ["road", "step"] (defScope s_add_step) := ⟨rfl, rfl, rfl, by decide +kernel, rfl, by decide +kernel, by decide +kernel⟩
abbrev s_Kept___init__ : Stmt := inClass (top 62) 0
theorem sc_Kept___init__ : FnScope ["self", "steps", "stack", "ahead"] ["self", "steps", "stack", "ahead"] (defScope s_Kept___init__) := ⟨rfl, rfl, rfl, by decide +kernel, rfl, by decide +kernel, by decide +kernel⟩
abbrev s_Trial___init__ : Stmt := inClass (top 63) 0
theorem sc_Trial___init__ : FnScope ["self", "road"] ["self", "road"] (defScope s_Trial___init__) := ⟨rfl, rfl, rfl, by decide +kernel, rfl, by decide +kernel, by decide +kernel⟩
abbrev s_Trial___enter__ : Stmt := inClass (top 63) 1
theorem sc_Trial___enter__ : FnScope ["self"] ["self"] (defScope s_Trial___enter__) := ⟨rfl, rfl, rfl, by decide +kernel, rfl, by decide +kernel, by decide +kernel⟩
abbrev s_Trial___exit__ : Stmt := inClass (top 63) 2
theorem sc_Trial___exit__ : FnScope ["self", "kind", "value", "trace"] ["self", "kind", "value", "trace"] (defScope s_Trial___exit__) := ⟨rfl, rfl, rfl, by decide +kernel, rfl, by decide +kernel, by decide +kernel⟩
abbrev s_Road___init__ : Stmt := inClass (top 64) 0
theorem sc_Road___init__ : FnScope ["self", "base"] ["self", "base"] (defScope s_Road___init__) := ⟨rfl, rfl, rfl, by decide +kernel, rfl, by decide +kernel, by decide +kernel⟩
abbrev s_Road_push : Stmt := inClass (top 64) 1
theorem sc_Road_push : FnScope ["self", "wrap"] ["self", "wrap"] (defScope s_Road_push) := ⟨rfl, rfl, rfl, by decide +kernel, rfl, by decide +kernel, by decide +kernel⟩
abbrev s_Road_pop : Stmt := inClass (top 64) 2
theorem sc_Road_pop : FnScope ["self"] ["self"] (defScope s_Road_pop) := ⟨rfl, rfl, rfl, by decide +kernel, rfl, by decide +kernel, by decide +kernel⟩
abbrev s_Road_bound : Stmt := inClass (top 64) 3
theorem sc_Road_bound : FnScope ["self", "bound"] ["self", "bound"] (defScope s_Road_bound) := ⟨rfl, rfl, rfl, by decide +kernel, rfl, by decide +kernel, by decide +kernel⟩
abbrev s_Road_do_all : Stmt := inClass (top 64) 4
theorem sc_Road_do_all : FnScope ["self", "watch", "deeds", "index", "deed", "steps", "stack"] ["self", "watch", "deeds"] (defScope s_Road_do_all) := ⟨rfl, rfl, rfl, by decide +kernel, rfl, by decide +kernel, by decide +kernel⟩
abbrev s_Road_undo : Stmt := inClass (top 64) 5
theorem sc_Road_undo : FnScope ["self"] ["self"] (defScope s_Road_undo) := ⟨rfl, rfl, rfl, by decide +kernel, rfl, by decide +kernel, by decide +kernel⟩
abbrev s_Road_trial : Stmt := inClass (top 64) 6
theorem sc_Road_trial : FnScope ["self"] ["self"] (defScope s_Road_trial) := ⟨rfl, rfl, rfl, by decide +kernel, rfl, by decide +kernel, by decide +kernel⟩
abbrev s_Road_sizes : Stmt := inClass (top 64) 7
theorem sc_Road_sizes : FnScope ["self", "length"] ["self", "length"] (defScope s_Road_sizes) := ⟨rfl, rfl, rfl, by decide +kernel, rfl, by decide +kernel, by decide +kernel⟩
abbrev s_Road_fits : Stmt := inClass (top 64) 8
theorem sc_Road_fits : FnScope ["self", "length", "sizes", "size", "step"] ["self", "length"] (defScope s_Road_fits) := ⟨rfl, rfl, rfl, by decide +kernel, rfl, by decide +kernel, by decide +kernel⟩
abbrev s_Road_greatest : Stmt := inClass (top 64) 9
theorem sc_Road_greatest : FnScope ["self", "most"] ["self"] (defScope s_Road_greatest) := ⟨rfl, rfl, rfl, by decide +kernel, rfl, by decide +kernel, by decide +kernel⟩
abbrev s_Road_stopper : Stmt := inClass (top 64) 10
theorem sc_Road_stopper : FnScope ["self", "pairs", "least", "place", "most"] ["self"] (defScope s_Road_stopper) := ⟨rfl, rfl, rfl, by decide +kernel, rfl, by decide +kernel, by decide +kernel⟩
abbrev s_Road_idle : Stmt := inClass (top 64) 11
theorem sc_Road_idle : FnScope ["self", "pairs", "least", "found", "place", "most", "pair"] ["self"] (defScope s_Road_idle) := ⟨rfl, rfl, rfl, by decide +kernel, rfl, by decide +kernel, by decide +kernel⟩
abbrev s_Road___len__ : Stmt := inClass (top 64) 12
theorem sc_Road___len__ : FnScope ["self"] ["self"] (defScope s_Road___len__) := ⟨rfl, rfl, rfl, by decide +kernel, rfl, by decide +kernel, by decide +kernel⟩
abbrev s_attempt : Stmt := top 65
theorem sc_attempt : FnScope ["road", "act", "held"] ["road", "act"] (defScope s_attempt) := ⟨rfl, rfl, rfl, by decide +kernel, rfl, by decide +kernel, by decide +kernel⟩
abbrev s_L_cell : Stmt := top 67
theorem sc_L_cell : FnScope ["_law_cells", "_law_k", "_law_found", "_law_cell_here"] ["_law_cells", "_law_k"] (defScope s_L_cell) := ⟨rfl, rfl, rfl, by decide +kernel, rfl, by decide +kernel, by decide +kernel⟩
abbrev s_L_pool : Stmt := top 68
theorem sc_L_pool : FnScope ["_law_cell_here", "_law_digits"] ["_law_cell_here"] (defScope s_L_pool) := ⟨rfl, rfl, rfl, by decide +kernel, rfl, by decide +kernel, by decide +kernel⟩
abbrev s_L_draw : Stmt := top 69
theorem sc_L_draw : FnScope ["_law_pool_here", "_law_many", "_law_digit"] ["_law_pool_here", "_law_many"] (defScope s_L_draw) := ⟨rfl, rfl, rfl, by decide +kernel, rfl, by decide +kernel, by decide +kernel⟩
abbrev s_L_far : Stmt := top 70
theorem sc_L_far : FnScope ["_law_pool_here", "_law_cut", "_law_found", "_law_k"] ["_law_pool_here"] (defScope s_L_far) := ⟨rfl, rfl, rfl, by decide +kernel, rfl, by decide +kernel, by decide +kernel⟩
abbrev s_L_radix : Stmt := top 71
theorem sc_L_radix : FnScope ["_law_pool_here", "_law_way"] ["_law_pool_here"] (defScope s_L_radix) := ⟨rfl, rfl, rfl, by decide +kernel, rfl, by decide +kernel, by decide +kernel⟩
abbrev s_L_length : Stmt := top 72
theorem sc_L_length : FnScope ["_law_pool_here", "_law_b", "_law_way", "_law_power", "_law_k"] ["_law_pool_here", "_law_b"] (defScope s_L_length) := ⟨rfl, rfl, rfl, by decide +kernel, rfl, by decide +kernel, by decide +kernel⟩
abbrev s_L_constant : Stmt := top 73
theorem sc_L_constant : FnScope ["_law_pool_here", "_law_most", "_law_way"] ["_law_pool_here", "_law_most"] (defScope s_L_constant) := ⟨rfl, rfl, rfl, by decide +kernel, rfl, by decide +kernel, by decide +kernel⟩
abbrev s_L_fine : Stmt := top 74
theorem sc_L_fine : FnScope ["_law_tags", "_law_found", "_law_tag"] ["_law_tags"] (defScope s_L_fine) := ⟨rfl, rfl, rfl, by decide +kernel, rfl, by decide +kernel, by decide +kernel⟩
abbrev s_L_wrap : Stmt := top 75
theorem sc_L_wrap : FnScope ["_law_pool_here", "_law_room", "_law_way", "_law_most", "_law_many", "_law_k"] ["_law_pool_here", "_law_room"] (defScope s_L_wrap) := ⟨rfl, rfl, rfl, by decide +kernel, rfl, by decide +kernel, by decide +kernel⟩
abbrev s_L_figures : Stmt := top 76
theorem sc_L_figures : FnScope ["_law_n", "_law_b", "_law_far_here", "_law_count"] ["_law_n", "_law_b"] (defScope s_L_figures) := ⟨rfl, rfl, rfl, by decide +kernel, rfl, by decide +kernel, by decide +kernel⟩
abbrev s_L_over : Stmt := top 77
theorem sc_L_over : FnScope ["_law_tag", "_law_n", "_law_b", "_law_many", "_law_full", "_law_rest", "_law_last", "_law_parts_here"] ["_law_tag", "_law_n", "_law_b"] (defScope s_L_over) := ⟨rfl, rfl, rfl, by decide +kernel, rfl, by decide +kernel, by decide +kernel⟩
abbrev s_L_long : Stmt := top 78
theorem sc_L_long : FnScope ["_law_tags", "_law_n", "_law_b", "_law_tag"] ["_law_tags", "_law_n", "_law_b"] (defScope s_L_long) := ⟨rfl, rfl, rfl, by decide +kernel, rfl, by decide +kernel, by decide +kernel⟩
abbrev s_L_made : Stmt := top 79
theorem sc_L_made : FnScope ["_law_tag"] ["_law_tag"] (defScope s_L_made) := ⟨rfl, rfl, rfl, by decide +kernel, rfl, by decide +kernel, by decide +kernel⟩
abbrev s_L_edge : Stmt := top 80
theorem sc_L_edge : FnScope ["_law_pool_here", "_law_on_here", "_law_b", "_law_middle", "_law_way"] ["_law_pool_here", "_law_on_here", "_law_b", "_law_middle"] (defScope s_L_edge) := ⟨rfl, rfl, rfl, by decide +kernel, rfl, by decide +kernel, by decide +kernel⟩
abbrev s_L_move : Stmt := top 81
theorem sc_L_move : FnScope ["_law_pool_here", "_law_on_here", "_law_b", "_law_middle", "_law_way"] ["_law_pool_here", "_law_on_here", "_law_b", "_law_middle"] (defScope s_L_move) := ⟨rfl, rfl, rfl, by decide +kernel, rfl, by decide +kernel, by decide +kernel⟩
abbrev s_L_put : Stmt := top 82
theorem sc_L_put : FnScope ["_law_on_here", "_law_move_here"] ["_law_on_here", "_law_move_here"] (defScope s_L_put) := ⟨rfl, rfl, rfl, by decide +kernel, rfl, by decide +kernel, by decide +kernel⟩
abbrev s_L_moves : Stmt := top 83
theorem sc_L_moves : FnScope ["_law_pool_here", "_law_many", "_law_b", "_law_middle", "_law_found", "_law_on_here", "_law_k", "_law_move_here"] ["_law_pool_here", "_law_many", "_law_b", "_law_middle"] (defScope s_L_moves) := ⟨rfl, rfl, rfl, by decide +kernel, rfl, by decide +kernel, by decide +kernel⟩
abbrev s_L_on : Stmt := top 84
theorem sc_L_on : FnScope ["_law_moves_here", "_law_on_here", "_law_move_here"] ["_law_moves_here"] (defScope s_L_on) := ⟨rfl, rfl, rfl, by decide +kernel, rfl, by decide +kernel, by decide +kernel⟩
abbrev s_L_deed : Stmt := top 85
theorem sc_L_deed : FnScope ["_law_move_here", "_law_part_here"] ["_law_move_here"] (defScope s_L_deed) := ⟨rfl, rfl, rfl, by decide +kernel, rfl, by decide +kernel, by decide +kernel⟩
abbrev s_L_go : Stmt := top 86
theorem sc_L_go : FnScope ["_law_track_here", "_law_move_here"] ["_law_track_here", "_law_move_here"] (defScope s_L_go) := ⟨rfl, rfl, rfl, by decide +kernel, rfl, by decide +kernel, by decide +kernel⟩
abbrev s_L_track : Stmt := top 87
theorem sc_L_track : FnScope ["_law_moves_here", "_law_b", "_law_track_here", "_law_move_here"] ["_law_moves_here", "_law_b"] (defScope s_L_track) := ⟨rfl, rfl, rfl, by decide +kernel, rfl, by decide +kernel, by decide +kernel⟩
abbrev s_L_told_of : Stmt := top 88
theorem sc_L_told_of : FnScope ["_law_track_here", "_law_lengths_here", "_law_told", "_law_n"] ["_law_track_here", "_law_lengths_here"] (defScope s_L_told_of) := ⟨rfl, rfl, rfl, by decide +kernel, rfl, by decide +kernel, by decide +kernel⟩
abbrev s_L_at_once : Stmt := top 89
theorem sc_L_at_once : FnScope ["_law_moves_here", "_law_b", "_law_track_here", "_law_k"] ["_law_moves_here", "_law_b"] (defScope s_L_at_once) := ⟨rfl, rfl, rfl, by decide +kernel, rfl, by decide +kernel, by decide +kernel⟩
abbrev s_L_taken_back : Stmt := top 90
theorem sc_L_taken_back : FnScope ["_law_moves_here", "_law_b", "_law_track_here", "_law_move_here"] ["_law_moves_here", "_law_b"] (defScope s_L_taken_back) := ⟨rfl, rfl, rfl, by decide +kernel, rfl, by decide +kernel, by decide +kernel⟩
abbrev s_L_tried : Stmt := top 91
theorem sc_L_tried : FnScope ["_law_moves_here", "_law_b", "_law_lengths_here", "_law_act", "_law_told", "_law_track_here"] ["_law_moves_here", "_law_b", "_law_lengths_here"] (defScope s_L_tried) := ⟨rfl, rfl, rfl, by decide +kernel, rfl, by decide +kernel, by decide +kernel⟩
abbrev s_L_moved_right : Stmt := top 92
theorem sc_L_moved_right : FnScope ["_law_pool_here", "_law_moves_here", "_law_b", "_law_middle", "_law_track_here", "_law_at", "_law_on_here", "_law_tag", "_law_more", "_law_first", "_law_last", "_law_told", "_law_due", "_law_kept", "_law_k"] ["_law_pool_here", "_law_moves_here", "_law_b", "_law_middle"] (defScope s_L_moved_right) := ⟨rfl, rfl, rfl, by decide +kernel, rfl, by decide +kernel, by decide +kernel⟩
abbrev s_L_twice_right : Stmt := top 93
theorem sc_L_twice_right : FnScope ["_law_pool_here", "_law_moves_here", "_law_b", "_law_which", "_law_at", "_law_track_here", "_law_ahead", "_law_rest", "_law_more", "_law_found", "_law_edge_here", "_law_one", "_law_some", "_law_two", "_law_told", "_law_k"] ["_law_pool_here", "_law_moves_here", "_law_b"] (defScope s_L_twice_right) := ⟨rfl, rfl, rfl, by decide +kernel, rfl, by decide +kernel, by decide +kernel⟩
abbrev s_L_right : Stmt := top 94
theorem sc_L_right : FnScope ["_law_cell_here", "_law_pool_here", "_law_b", "_law_middle", "_law_moves_here", "_law_lengths_here", "_law_told"] ["_law_cell_here"] (defScope s_L_right) := ⟨rfl, rfl, rfl, by decide +kernel, rfl, by decide +kernel, by decide +kernel⟩
abbrev s_law : Stmt := top 95
theorem sc_law : FnScope ["_law_cells", "_law_k"] ["_law_cells"] (defScope s_law) := ⟨rfl, rfl, rfl, by decide +kernel, rfl, by decide +kernel, by decide +kernel⟩
structure Tx (w : World) (K : PySem.W.Frag) (mg : Str → Option Value) : Prop where
  d__wall : DefAt K mg "_wall" s__wall
  d_is_integer : DefAt K mg "is_integer" s_is_integer
  d_is_between : DefAt K mg "is_between" s_is_between
  d_check_length : DefAt K mg "check_length" s_check_length
  d_check_base : DefAt K mg "check_base" s_check_base
  d_figures_of : DefAt K mg "figures_of" s_figures_of
  d_amount_of : DefAt K mg "amount_of" s_amount_of
  d_fault_in : DefAt K mg "fault_in" s_fault_in
  d_begun : DefAt K mg "begun" s_begun
  d_total_of : DefAt K mg "total_of" s_total_of
  d_in_pieces : DefAt K mg "in_pieces" s_in_pieces
  d_wrap_in : DefAt K mg "wrap_in" s_wrap_in
  d_check_wrap : DefAt K mg "check_wrap" s_check_wrap
  d_fineness_of : DefAt K mg "fineness_of" s_fineness_of
  d_check_wraps : DefAt K mg "check_wraps" s_check_wraps
  d_stack_in : DefAt K mg "stack_in" s_stack_in
  d_greatest_within : DefAt K mg "greatest_within" s_greatest_within
  d_is_deed : DefAt K mg "is_deed" s_is_deed
  d_stack_behind : DefAt K mg "stack_behind" s_stack_behind
  d_sizes_along : DefAt K mg "sizes_along" s_sizes_along
  d_reaches : DefAt K mg "reaches" s_reaches
  d_least_reach : DefAt K mg "least_reach" s_least_reach
  d_check_free : DefAt K mg "check_free" s_check_free
  d_check_push : DefAt K mg "check_push" s_check_push
  d_add_step : DefAt K mg "add_step" s_add_step
  d_attempt : DefAt K mg "attempt" s_attempt
  d_L_cell : DefAt K mg "_law_cell" s_L_cell
  d_L_pool : DefAt K mg "_law_pool" s_L_pool
  d_L_draw : DefAt K mg "_law_draw" s_L_draw
  d_L_far : DefAt K mg "_law_far" s_L_far
  d_L_radix : DefAt K mg "_law_radix" s_L_radix
  d_L_length : DefAt K mg "_law_length" s_L_length
  d_L_constant : DefAt K mg "_law_constant" s_L_constant
  d_L_fine : DefAt K mg "_law_fine" s_L_fine
  d_L_wrap : DefAt K mg "_law_wrap" s_L_wrap
  d_L_figures : DefAt K mg "_law_figures" s_L_figures
  d_L_over : DefAt K mg "_law_over" s_L_over
  d_L_long : DefAt K mg "_law_long" s_L_long
  d_L_made : DefAt K mg "_law_made" s_L_made
  d_L_edge : DefAt K mg "_law_edge" s_L_edge
  d_L_move : DefAt K mg "_law_move" s_L_move
  d_L_put : DefAt K mg "_law_put" s_L_put
  d_L_moves : DefAt K mg "_law_moves" s_L_moves
  d_L_on : DefAt K mg "_law_on" s_L_on
  d_L_deed : DefAt K mg "_law_deed" s_L_deed
  d_L_go : DefAt K mg "_law_go" s_L_go
  d_L_track : DefAt K mg "_law_track" s_L_track
  d_L_told_of : DefAt K mg "_law_told_of" s_L_told_of
  d_L_at_once : DefAt K mg "_law_at_once" s_L_at_once
  d_L_taken_back : DefAt K mg "_law_taken_back" s_L_taken_back
  d_L_tried : DefAt K mg "_law_tried" s_L_tried
  d_L_moved_right : DefAt K mg "_law_moved_right" s_L_moved_right
  d_L_twice_right : DefAt K mg "_law_twice_right" s_L_twice_right
  d_L_right : DefAt K mg "_law_right" s_L_right
  d_law : DefAt K mg "law" s_law
  b_abs : mg "abs" = none
  b_all : mg "all" = none
  b_divmod : mg "divmod" = none
  b_enumerate : mg "enumerate" = none
  b_int : mg "int" = none
  b_isinstance : mg "isinstance" = none
  b_len : mg "len" = none
  b_max : mg "max" = none
  b_min : mg "min" = none
  b_range : mg "range" = none
  b_repr : mg "repr" = none
  b_str : mg "str" = none
  b_tuple : mg "tuple" = none
  b_zip : mg "zip" = none
  c_MOST_LENGTH : ∃ u, mg "MOST_LENGTH" = some (.int 1000000000000000000000000000000000000000000000000000000000000 u)
  c_MOST_WRAPS : ∃ u, mg "MOST_WRAPS" = some (.int 6 u)
  c_MOST_FINENESS : ∃ u, mg "MOST_FINENESS" = some (.int 120 u)
  c_MOST_CONSTANT : ∃ u, mg "MOST_CONSTANT" = some (.int 1000 u)
  c_LEAST_BASE : ∃ u, mg "LEAST_BASE" = some (.int 2 u)
  c_MOST_BASE : ∃ u, mg "MOST_BASE" = some (.int 256 u)
  c_MOST_PIECE : ∃ u, mg "MOST_PIECE" = some (.int 60 u)
  c_MOST_CODE : ∃ u, mg "MOST_CODE" = some (.int 120 u)
  c_LAST_LENGTH : ∃ u, mg "LAST_LENGTH" = some (.int 999999999999999999999999999999999999999999999999999999999999 u)
  c_TENS : ∃ u, mg "TENS" = some (.str "0123456789" u)
  k_Wrap : mg "Wrap" = some (.ref (He.ga K "Wrap"))
  cl_Wrap : Cls K (He.ga K "Wrap")
  mk_Wrap : Mk K (He.ga K "Wrap") (He.ma K (He.ga K "Wrap") "__init__")
  is_Wrap : IsiK K (He.ga K "Wrap")
  na_Wrap_kind : NoAttr K (He.ga K "Wrap") "kind"
  na_Wrap_numbers : NoAttr K (He.ga K "Wrap") "numbers"
  na_Wrap_words : NoAttr K (He.ga K "Wrap") "words"
  me_Wrap___init__ : Meth K (He.ga K "Wrap") "__init__" (He.ma K (He.ga K "Wrap") "__init__")
  dm_Wrap___init__ : DefAtM K "Wrap" "__init__" "Wrap.__init__" s_Wrap___init__
  me_Wrap_grown : Meth K (He.ga K "Wrap") "grown" (He.ma K (He.ga K "Wrap") "grown")
  dm_Wrap_grown : DefAtM K "Wrap" "grown" "Wrap.grown" s_Wrap_grown
  me_Wrap___str__ : Meth K (He.ga K "Wrap") "__str__" (He.ma K (He.ga K "Wrap") "__str__")
  dm_Wrap___str__ : DefAtM K "Wrap" "__str__" "Wrap.__str__" s_Wrap___str__
  k_Stack : mg "Stack" = some (.ref (He.ga K "Stack"))
  cl_Stack : Cls K (He.ga K "Stack")
  mk_Stack : Mk K (He.ga K "Stack") (He.ma K (He.ga K "Stack") "__init__")
  is_Stack : IsiK K (He.ga K "Stack")
  na_Stack_base : NoAttr K (He.ga K "Stack") "base"
  na_Stack_wraps : NoAttr K (He.ga K "Stack") "wraps"
  na_Stack_fineness : NoAttr K (He.ga K "Stack") "fineness"
  me_Stack___init__ : Meth K (He.ga K "Stack") "__init__" (He.ma K (He.ga K "Stack") "__init__")
  dm_Stack___init__ : DefAtM K "Stack" "__init__" "Stack.__init__" s_Stack___init__
  me_Stack_grown : Meth K (He.ga K "Stack") "grown" (He.ma K (He.ga K "Stack") "grown")
  dm_Stack_grown : DefAtM K "Stack" "grown" "Stack.grown" s_Stack_grown
  me_Stack___len__ : Meth K (He.ga K "Stack") "__len__" (He.ma K (He.ga K "Stack") "__len__")
  dm_Stack___len__ : DefAtM K "Stack" "__len__" "Stack.__len__" s_Stack___len__
  me_Stack___str__ : Meth K (He.ga K "Stack") "__str__" (He.ma K (He.ga K "Stack") "__str__")
  dm_Stack___str__ : DefAtM K "Stack" "__str__" "Stack.__str__" s_Stack___str__
  k_Road : mg "Road" = some (.ref (He.ga K "Road"))
  cl_Road : Cls K (He.ga K "Road")
  mk_Road : Mk K (He.ga K "Road") (He.ma K (He.ga K "Road") "__init__")
  is_Road : IsiK K (He.ga K "Road")
  na_Road_base : NoAttr K (He.ga K "Road") "base"
  na_Road_steps : NoAttr K (He.ga K "Road") "steps"
  na_Road_stack : NoAttr K (He.ga K "Road") "stack"
  na_Road_busy : NoAttr K (He.ga K "Road") "busy"
  me_Road___init__ : Meth K (He.ga K "Road") "__init__" (He.ma K (He.ga K "Road") "__init__")
  dm_Road___init__ : DefAtM K "Road" "__init__" "Road.__init__" s_Road___init__
  me_Road_push : Meth K (He.ga K "Road") "push" (He.ma K (He.ga K "Road") "push")
  dm_Road_push : DefAtM K "Road" "push" "Road.push" s_Road_push
  me_Road_pop : Meth K (He.ga K "Road") "pop" (He.ma K (He.ga K "Road") "pop")
  dm_Road_pop : DefAtM K "Road" "pop" "Road.pop" s_Road_pop
  me_Road_bound : Meth K (He.ga K "Road") "bound" (He.ma K (He.ga K "Road") "bound")
  dm_Road_bound : DefAtM K "Road" "bound" "Road.bound" s_Road_bound
  me_Road_undo : Meth K (He.ga K "Road") "undo" (He.ma K (He.ga K "Road") "undo")
  dm_Road_undo : DefAtM K "Road" "undo" "Road.undo" s_Road_undo
  me_Road_do_all : Meth K (He.ga K "Road") "do_all" (He.ma K (He.ga K "Road") "do_all")
  dm_Road_do_all : DefAtK K "Road" "do_all" "Road.do_all" s_Road_do_all [("watch", .non)]
  me_Road_sizes : Meth K (He.ga K "Road") "sizes" (He.ma K (He.ga K "Road") "sizes")
  dm_Road_sizes : DefAtM K "Road" "sizes" "Road.sizes" s_Road_sizes
  me_Road_fits : Meth K (He.ga K "Road") "fits" (He.ma K (He.ga K "Road") "fits")
  dm_Road_fits : DefAtM K "Road" "fits" "Road.fits" s_Road_fits
  me_Road_greatest : Meth K (He.ga K "Road") "greatest" (He.ma K (He.ga K "Road") "greatest")
  dm_Road_greatest : DefAtM K "Road" "greatest" "Road.greatest" s_Road_greatest
  me_Road_stopper : Meth K (He.ga K "Road") "stopper" (He.ma K (He.ga K "Road") "stopper")
  dm_Road_stopper : DefAtM K "Road" "stopper" "Road.stopper" s_Road_stopper
  me_Road_idle : Meth K (He.ga K "Road") "idle" (He.ma K (He.ga K "Road") "idle")
  dm_Road_idle : DefAtM K "Road" "idle" "Road.idle" s_Road_idle
  me_Road___len__ : Meth K (He.ga K "Road") "__len__" (He.ma K (He.ga K "Road") "__len__")
  dm_Road___len__ : DefAtM K "Road" "__len__" "Road.__len__" s_Road___len__
  me_Road_trial : Meth K (He.ga K "Road") "trial" (He.ma K (He.ga K "Road") "trial")
  dm_Road_trial : DefAtM K "Road" "trial" "Road.trial" s_Road_trial
  k_Kept : mg "Kept" = some (.ref (He.ga K "Kept"))
  cl_Kept : Cls K (He.ga K "Kept")
  mk_Kept : Mk K (He.ga K "Kept") (He.ma K (He.ga K "Kept") "__init__")
  is_Kept : IsiK K (He.ga K "Kept")
  na_Kept_steps : NoAttr K (He.ga K "Kept") "steps"
  na_Kept_stack : NoAttr K (He.ga K "Kept") "stack"
  na_Kept_ahead : NoAttr K (He.ga K "Kept") "ahead"
  me_Kept___init__ : Meth K (He.ga K "Kept") "__init__" (He.ma K (He.ga K "Kept") "__init__")
  dm_Kept___init__ : DefAtM K "Kept" "__init__" "Kept.__init__" s_Kept___init__
  k_Trial : mg "Trial" = some (.ref (He.ga K "Trial"))
  cl_Trial : Cls K (He.ga K "Trial")
  mk_Trial : Mk K (He.ga K "Trial") (He.ma K (He.ga K "Trial") "__init__")
  is_Trial : IsiK K (He.ga K "Trial")
  na_Trial_road : NoAttr K (He.ga K "Trial") "road"
  na_Trial_kept : NoAttr K (He.ga K "Trial") "kept"
  me_Trial___init__ : Meth K (He.ga K "Trial") "__init__" (He.ma K (He.ga K "Trial") "__init__")
  dm_Trial___init__ : DefAtM K "Trial" "__init__" "Trial.__init__" s_Trial___init__
  me_Trial___enter__ : Meth K (He.ga K "Trial") "__enter__" (He.ma K (He.ga K "Trial") "__enter__")
  dm_Trial___enter__ : DefAtM K "Trial" "__enter__" "Trial.__enter__" s_Trial___enter__
  me_Trial___exit__ : Meth K (He.ga K "Trial") "__exit__" (He.ma K (He.ga K "Trial") "__exit__")
  dm_Trial___exit__ : DefAtM K "Trial" "__exit__" "Trial.__exit__" s_Trial___exit__
  st_Wrap : StrK K (He.ga K "Wrap")
  st_Stack : StrK K (He.ga K "Stack")
  ne_Trial_Road : He.ga K "Trial" ≠ He.ga K "Road"
  ne_Kept_Road : He.ga K "Kept" ≠ He.ga K "Road"
  ne_Kept_Trial : He.ga K "Kept" ≠ He.ga K "Trial"
  ne_Road_Wrap : He.ga K "Road" ≠ He.ga K "Wrap"
  ne_Road_Stack : He.ga K "Road" ≠ He.ga K "Stack"
  kt : KitTab K ["Wrap", "Stack", "Road"]
  dt_L_tried : DefC K mg "_law_tried" s_L_tried
  k_RANGES : mg "RANGES" = some (.ref (He.ga K "RANGES"))
  kd : ∃ es n, KDict K w (He.ga K "RANGES") es n
  rg : ∀ a : Wr, Rng K (He.ga K "RANGES") a.kind a.rng
  k_DEED_SIZES : mg "DEED_SIZES" = some (.ref (He.ga K "DEED_SIZES"))
  dk : ∃ es n, KDict K w (He.ga K "DEED_SIZES") es n
  dz_push : ∃ t, PySem.W.nsIn K (He.ga K "DEED_SIZES") "push" = some (some (.int 2 t))
  dz_pop : ∃ t, PySem.W.nsIn K (He.ga K "DEED_SIZES") "pop" = some (some (.int 1 t))
  dz_bound : ∃ t, PySem.W.nsIn K (He.ga K "DEED_SIZES") "bound" = some (some (.int 2 t))
def tfL : List He.Defn := [("_law_tried", none)]
def tabsOf (K : PySem.W.Frag) : List (Addr × Str) := [((He.cT K ("_law_tried", none)).2, ("_law_tried" : Str) ++ ".<locals>." ++ "_law_act")]
theorem tabs_u {K : PySem.W.Frag} {x : Addr} : ∀ p ∈ tabsOf K, p.1 = x → p.2 = ("_law_tried" : Str) ++ ".<locals>." ++ "_law_act" := fun p hp _ => by rw [List.mem_singleton.mp hp]
abbrev UT (K : PySem.W.Frag) (mg : Str → Option Value) (base : Heap) : Prop := ∀ p ∈ tfL.map (He.cT K), LamX.TabB base mg p.1 p.2
theorem tabs_start {K : PySem.W.Frag} {H : Hp} (h : ∀ p ∈ tfL.map (He.cT K), H p.2 = some (.tbl #[])) : LamX.Tabs (tabsOf K) H := by
  intro p hp
  have key : ∃ d ∈ tfL, (He.cT K d).2 = p.1 := by
    simp only [tabsOf, List.mem_cons, List.not_mem_nil, or_false] at hp
    subst hp
    exact ⟨_, List.mem_cons_self .., rfl⟩
  obtain ⟨d, hd, e⟩ := key
  exact .nil (by rw [← e]; exact h _ (List.mem_map.mpr ⟨d, hd, rfl⟩))
def dd__wall : He.DefD := ⟨("_wall", none), "_wall", "_wall", defArgs s__wall, defBody s__wall, defScope s__wall, [], []⟩
def dd_is_integer : He.DefD := ⟨("is_integer", none), "is_integer", "is_integer", defArgs s_is_integer, defBody s_is_integer, defScope s_is_integer, [], []⟩
def dd_is_between : He.DefD := ⟨("is_between", none), "is_between", "is_between", defArgs s_is_between, defBody s_is_between, defScope s_is_between, [], []⟩
def dd_check_length : He.DefD := ⟨("check_length", none), "check_length", "check_length", defArgs s_check_length, defBody s_check_length, defScope s_check_length, [], []⟩
def dd_check_base : He.DefD := ⟨("check_base", none), "check_base", "check_base", defArgs s_check_base, defBody s_check_base, defScope s_check_base, [], []⟩
def dd_figures_of : He.DefD := ⟨("figures_of", none), "figures_of", "figures_of", defArgs s_figures_of, defBody s_figures_of, defScope s_figures_of, [], []⟩
def dd_amount_of : He.DefD := ⟨("amount_of", none), "amount_of", "amount_of", defArgs s_amount_of, defBody s_amount_of, defScope s_amount_of, [], []⟩
def dd_fault_in : He.DefD := ⟨("fault_in", none), "fault_in", "fault_in", defArgs s_fault_in, defBody s_fault_in, defScope s_fault_in, [], []⟩
def dd_begun : He.DefD := ⟨("begun", none), "begun", "begun", defArgs s_begun, defBody s_begun, defScope s_begun, [], []⟩
def dd_total_of : He.DefD := ⟨("total_of", none), "total_of", "total_of", defArgs s_total_of, defBody s_total_of, defScope s_total_of, [], []⟩
def dd_in_pieces : He.DefD := ⟨("in_pieces", none), "in_pieces", "in_pieces", defArgs s_in_pieces, defBody s_in_pieces, defScope s_in_pieces, [], []⟩
def dd_wrap_in : He.DefD := ⟨("wrap_in", none), "wrap_in", "wrap_in", defArgs s_wrap_in, defBody s_wrap_in, defScope s_wrap_in, [], []⟩
def dd_check_wrap : He.DefD := ⟨("check_wrap", none), "check_wrap", "check_wrap", defArgs s_check_wrap, defBody s_check_wrap, defScope s_check_wrap, [], []⟩
def dd_fineness_of : He.DefD := ⟨("fineness_of", none), "fineness_of", "fineness_of", defArgs s_fineness_of, defBody s_fineness_of, defScope s_fineness_of, [], []⟩
def dd_check_wraps : He.DefD := ⟨("check_wraps", none), "check_wraps", "check_wraps", defArgs s_check_wraps, defBody s_check_wraps, defScope s_check_wraps, [], []⟩
def dd_stack_in : He.DefD := ⟨("stack_in", none), "stack_in", "stack_in", defArgs s_stack_in, defBody s_stack_in, defScope s_stack_in, [], []⟩
def dd_greatest_within : He.DefD := ⟨("greatest_within", none), "greatest_within", "greatest_within", defArgs s_greatest_within, defBody s_greatest_within, defScope s_greatest_within, [], []⟩
def dd_is_deed : He.DefD := ⟨("is_deed", none), "is_deed", "is_deed", defArgs s_is_deed, defBody s_is_deed, defScope s_is_deed, [], []⟩
def dd_stack_behind : He.DefD := ⟨("stack_behind", none), "stack_behind", "stack_behind", defArgs s_stack_behind, defBody s_stack_behind, defScope s_stack_behind, [], []⟩
def dd_sizes_along : He.DefD := ⟨("sizes_along", none), "sizes_along", "sizes_along", defArgs s_sizes_along, defBody s_sizes_along, defScope s_sizes_along, [], []⟩
def dd_reaches : He.DefD := ⟨("reaches", none), "reaches", "reaches", defArgs s_reaches, defBody s_reaches, defScope s_reaches, [], []⟩
def dd_least_reach : He.DefD := ⟨("least_reach", none), "least_reach", "least_reach", defArgs s_least_reach, defBody s_least_reach, defScope s_least_reach, [], []⟩
def dd_check_free : He.DefD := ⟨("check_free", none), "check_free", "check_free", defArgs s_check_free, defBody s_check_free, defScope s_check_free, [], []⟩
def dd_check_push : He.DefD := ⟨("check_push", none), "check_push", "check_push", defArgs s_check_push, defBody s_check_push, defScope s_check_push, [], []⟩
def dd_add_step : He.DefD := ⟨("add_step", none), "add_step", "add_step", defArgs s_add_step, defBody s_add_step, defScope s_add_step, [], []⟩
def dd_attempt : He.DefD := ⟨("attempt", none), "attempt", "attempt", defArgs s_attempt, defBody s_attempt, defScope s_attempt, [], []⟩
def dd_L_cell : He.DefD := ⟨("_law_cell", none), "_law_cell", "_law_cell", defArgs s_L_cell, defBody s_L_cell, defScope s_L_cell, [], []⟩
def dd_L_pool : He.DefD := ⟨("_law_pool", none), "_law_pool", "_law_pool", defArgs s_L_pool, defBody s_L_pool, defScope s_L_pool, [], []⟩
def dd_L_draw : He.DefD := ⟨("_law_draw", none), "_law_draw", "_law_draw", defArgs s_L_draw, defBody s_L_draw, defScope s_L_draw, [], []⟩
def dd_L_far : He.DefD := ⟨("_law_far", none), "_law_far", "_law_far", defArgs s_L_far, defBody s_L_far, defScope s_L_far, [], []⟩
def dd_L_radix : He.DefD := ⟨("_law_radix", none), "_law_radix", "_law_radix", defArgs s_L_radix, defBody s_L_radix, defScope s_L_radix, [], []⟩
def dd_L_length : He.DefD := ⟨("_law_length", none), "_law_length", "_law_length", defArgs s_L_length, defBody s_L_length, defScope s_L_length, [], []⟩
def dd_L_constant : He.DefD := ⟨("_law_constant", none), "_law_constant", "_law_constant", defArgs s_L_constant, defBody s_L_constant, defScope s_L_constant, [], []⟩
def dd_L_fine : He.DefD := ⟨("_law_fine", none), "_law_fine", "_law_fine", defArgs s_L_fine, defBody s_L_fine, defScope s_L_fine, [], []⟩
def dd_L_wrap : He.DefD := ⟨("_law_wrap", none), "_law_wrap", "_law_wrap", defArgs s_L_wrap, defBody s_L_wrap, defScope s_L_wrap, [], []⟩
def dd_L_figures : He.DefD := ⟨("_law_figures", none), "_law_figures", "_law_figures", defArgs s_L_figures, defBody s_L_figures, defScope s_L_figures, [], []⟩
def dd_L_over : He.DefD := ⟨("_law_over", none), "_law_over", "_law_over", defArgs s_L_over, defBody s_L_over, defScope s_L_over, [], []⟩
def dd_L_long : He.DefD := ⟨("_law_long", none), "_law_long", "_law_long", defArgs s_L_long, defBody s_L_long, defScope s_L_long, [], []⟩
def dd_L_made : He.DefD := ⟨("_law_made", none), "_law_made", "_law_made", defArgs s_L_made, defBody s_L_made, defScope s_L_made, [], []⟩
def dd_L_edge : He.DefD := ⟨("_law_edge", none), "_law_edge", "_law_edge", defArgs s_L_edge, defBody s_L_edge, defScope s_L_edge, [], []⟩
def dd_L_move : He.DefD := ⟨("_law_move", none), "_law_move", "_law_move", defArgs s_L_move, defBody s_L_move, defScope s_L_move, [], []⟩
def dd_L_put : He.DefD := ⟨("_law_put", none), "_law_put", "_law_put", defArgs s_L_put, defBody s_L_put, defScope s_L_put, [], []⟩
def dd_L_moves : He.DefD := ⟨("_law_moves", none), "_law_moves", "_law_moves", defArgs s_L_moves, defBody s_L_moves, defScope s_L_moves, [], []⟩
def dd_L_on : He.DefD := ⟨("_law_on", none), "_law_on", "_law_on", defArgs s_L_on, defBody s_L_on, defScope s_L_on, [], []⟩
def dd_L_deed : He.DefD := ⟨("_law_deed", none), "_law_deed", "_law_deed", defArgs s_L_deed, defBody s_L_deed, defScope s_L_deed, [], []⟩
def dd_L_go : He.DefD := ⟨("_law_go", none), "_law_go", "_law_go", defArgs s_L_go, defBody s_L_go, defScope s_L_go, [], []⟩
def dd_L_track : He.DefD := ⟨("_law_track", none), "_law_track", "_law_track", defArgs s_L_track, defBody s_L_track, defScope s_L_track, [], []⟩
def dd_L_told_of : He.DefD := ⟨("_law_told_of", none), "_law_told_of", "_law_told_of", defArgs s_L_told_of, defBody s_L_told_of, defScope s_L_told_of, [], []⟩
def dd_L_at_once : He.DefD := ⟨("_law_at_once", none), "_law_at_once", "_law_at_once", defArgs s_L_at_once, defBody s_L_at_once, defScope s_L_at_once, [], []⟩
def dd_L_taken_back : He.DefD := ⟨("_law_taken_back", none), "_law_taken_back", "_law_taken_back", defArgs s_L_taken_back, defBody s_L_taken_back, defScope s_L_taken_back, [], []⟩
def dd_L_tried : He.DefD := ⟨("_law_tried", none), "_law_tried", "_law_tried", defArgs s_L_tried, defBody s_L_tried, defScope s_L_tried, [], []⟩
def dd_L_moved_right : He.DefD := ⟨("_law_moved_right", none), "_law_moved_right", "_law_moved_right", defArgs s_L_moved_right, defBody s_L_moved_right, defScope s_L_moved_right, [], []⟩
def dd_L_twice_right : He.DefD := ⟨("_law_twice_right", none), "_law_twice_right", "_law_twice_right", defArgs s_L_twice_right, defBody s_L_twice_right, defScope s_L_twice_right, [], []⟩
def dd_L_right : He.DefD := ⟨("_law_right", none), "_law_right", "_law_right", defArgs s_L_right, defBody s_L_right, defScope s_L_right, [], []⟩
def dd_law : He.DefD := ⟨("law", none), "law", "law", defArgs s_law, defBody s_law, defScope s_law, [], []⟩
def dd_Wrap___init__ : He.DefD := ⟨("Wrap", some "__init__"), "__init__", "Wrap.__init__", defArgs s_Wrap___init__, defBody s_Wrap___init__, defScope s_Wrap___init__, [], []⟩
def dd_Wrap_grown : He.DefD := ⟨("Wrap", some "grown"), "grown", "Wrap.grown", defArgs s_Wrap_grown, defBody s_Wrap_grown, defScope s_Wrap_grown, [], []⟩
def dd_Wrap___str__ : He.DefD := ⟨("Wrap", some "__str__"), "__str__", "Wrap.__str__", defArgs s_Wrap___str__, defBody s_Wrap___str__, defScope s_Wrap___str__, [], []⟩
def dd_Stack___init__ : He.DefD := ⟨("Stack", some "__init__"), "__init__", "Stack.__init__", defArgs s_Stack___init__, defBody s_Stack___init__, defScope s_Stack___init__, [], []⟩
def dd_Stack_grown : He.DefD := ⟨("Stack", some "grown"), "grown", "Stack.grown", defArgs s_Stack_grown, defBody s_Stack_grown, defScope s_Stack_grown, [], []⟩
def dd_Stack___len__ : He.DefD := ⟨("Stack", some "__len__"), "__len__", "Stack.__len__", defArgs s_Stack___len__, defBody s_Stack___len__, defScope s_Stack___len__, [], []⟩
def dd_Stack___str__ : He.DefD := ⟨("Stack", some "__str__"), "__str__", "Stack.__str__", defArgs s_Stack___str__, defBody s_Stack___str__, defScope s_Stack___str__, [], []⟩
def dd_Road___init__ : He.DefD := ⟨("Road", some "__init__"), "__init__", "Road.__init__", defArgs s_Road___init__, defBody s_Road___init__, defScope s_Road___init__, [], []⟩
def dd_Road_push : He.DefD := ⟨("Road", some "push"), "push", "Road.push", defArgs s_Road_push, defBody s_Road_push, defScope s_Road_push, [], []⟩
def dd_Road_pop : He.DefD := ⟨("Road", some "pop"), "pop", "Road.pop", defArgs s_Road_pop, defBody s_Road_pop, defScope s_Road_pop, [], []⟩
def dd_Road_bound : He.DefD := ⟨("Road", some "bound"), "bound", "Road.bound", defArgs s_Road_bound, defBody s_Road_bound, defScope s_Road_bound, [], []⟩
def dd_Road_undo : He.DefD := ⟨("Road", some "undo"), "undo", "Road.undo", defArgs s_Road_undo, defBody s_Road_undo, defScope s_Road_undo, [], []⟩
def dd_Road_do_all : He.DefD := ⟨("Road", some "do_all"), "do_all", "Road.do_all", defArgs s_Road_do_all, defBody s_Road_do_all, defScope s_Road_do_all, [], [("watch", .non)]⟩
def dd_Road_sizes : He.DefD := ⟨("Road", some "sizes"), "sizes", "Road.sizes", defArgs s_Road_sizes, defBody s_Road_sizes, defScope s_Road_sizes, [], []⟩
def dd_Road_fits : He.DefD := ⟨("Road", some "fits"), "fits", "Road.fits", defArgs s_Road_fits, defBody s_Road_fits, defScope s_Road_fits, [], []⟩
def dd_Road_greatest : He.DefD := ⟨("Road", some "greatest"), "greatest", "Road.greatest", defArgs s_Road_greatest, defBody s_Road_greatest, defScope s_Road_greatest, [], []⟩
def dd_Road_stopper : He.DefD := ⟨("Road", some "stopper"), "stopper", "Road.stopper", defArgs s_Road_stopper, defBody s_Road_stopper, defScope s_Road_stopper, [], []⟩
def dd_Road_idle : He.DefD := ⟨("Road", some "idle"), "idle", "Road.idle", defArgs s_Road_idle, defBody s_Road_idle, defScope s_Road_idle, [], []⟩
def dd_Road___len__ : He.DefD := ⟨("Road", some "__len__"), "__len__", "Road.__len__", defArgs s_Road___len__, defBody s_Road___len__, defScope s_Road___len__, [], []⟩
def dd_Road_trial : He.DefD := ⟨("Road", some "trial"), "trial", "Road.trial", defArgs s_Road_trial, defBody s_Road_trial, defScope s_Road_trial, [], []⟩
def dd_Kept___init__ : He.DefD := ⟨("Kept", some "__init__"), "__init__", "Kept.__init__", defArgs s_Kept___init__, defBody s_Kept___init__, defScope s_Kept___init__, [], []⟩
def dd_Trial___init__ : He.DefD := ⟨("Trial", some "__init__"), "__init__", "Trial.__init__", defArgs s_Trial___init__, defBody s_Trial___init__, defScope s_Trial___init__, [], []⟩
def dd_Trial___enter__ : He.DefD := ⟨("Trial", some "__enter__"), "__enter__", "Trial.__enter__", defArgs s_Trial___enter__, defBody s_Trial___enter__, defScope s_Trial___enter__, [], []⟩
def dd_Trial___exit__ : He.DefD := ⟨("Trial", some "__exit__"), "__exit__", "Trial.__exit__", defArgs s_Trial___exit__, defBody s_Trial___exit__, defScope s_Trial___exit__, [], []⟩
def fnL : List He.DefD := [dd__wall, dd_is_integer, dd_is_between, dd_check_length, dd_check_base, dd_figures_of, dd_amount_of, dd_fault_in, dd_begun, dd_total_of, dd_in_pieces, dd_wrap_in, dd_check_wrap, dd_fineness_of, dd_check_wraps, dd_stack_in, dd_greatest_within, dd_is_deed, dd_stack_behind, dd_sizes_along, dd_reaches, dd_least_reach, dd_check_free, dd_check_push, dd_add_step, dd_attempt, dd_L_cell, dd_L_pool, dd_L_draw, dd_L_far, dd_L_radix, dd_L_length, dd_L_constant, dd_L_fine, dd_L_wrap, dd_L_figures, dd_L_over, dd_L_long, dd_L_made, dd_L_edge, dd_L_move, dd_L_put, dd_L_moves, dd_L_on, dd_L_deed, dd_L_go, dd_L_track, dd_L_told_of, dd_L_at_once, dd_L_taken_back, dd_L_tried, dd_L_moved_right, dd_L_twice_right, dd_L_right, dd_law, dd_Wrap___init__, dd_Wrap_grown, dd_Wrap___str__, dd_Stack___init__, dd_Stack_grown, dd_Stack___len__, dd_Stack___str__, dd_Road___init__, dd_Road_push, dd_Road_pop, dd_Road_bound, dd_Road_undo, dd_Road_do_all, dd_Road_sizes, dd_Road_fits, dd_Road_greatest, dd_Road_stopper, dd_Road_idle, dd_Road___len__, dd_Road_trial, dd_Kept___init__, dd_Trial___init__, dd_Trial___enter__, dd_Trial___exit__]
def faL : List He.Fa := [.glo "_wall", .glo "is_integer", .glo "is_between", .glo "check_length", .glo "check_base", .glo "figures_of", .glo "amount_of", .glo "fault_in", .glo "begun", .glo "total_of", .glo "in_pieces", .glo "wrap_in", .glo "check_wrap", .glo "fineness_of", .glo "check_wraps", .glo "stack_in", .glo "greatest_within", .glo "is_deed", .glo "stack_behind", .glo "sizes_along", .glo "reaches", .glo "least_reach", .glo "check_free", .glo "check_push", .glo "add_step", .glo "attempt", .glo "_law_cell", .glo "_law_pool", .glo "_law_draw", .glo "_law_far", .glo "_law_radix", .glo "_law_length", .glo "_law_constant", .glo "_law_fine", .glo "_law_wrap", .glo "_law_figures", .glo "_law_over", .glo "_law_long", .glo "_law_made", .glo "_law_edge", .glo "_law_move", .glo "_law_put", .glo "_law_moves", .glo "_law_on", .glo "_law_deed", .glo "_law_go", .glo "_law_track", .glo "_law_told_of", .glo "_law_at_once", .glo "_law_taken_back", .glo "_law_tried", .glo "_law_moved_right", .glo "_law_twice_right", .glo "_law_right", .glo "law", .free "abs", .free "all", .free "divmod", .free "enumerate", .free "int", .free "isinstance", .free "len", .free "max", .free "min", .free "range", .free "repr", .free "str", .free "tuple", .free "zip", .int "MOST_LENGTH" 1000000000000000000000000000000000000000000000000000000000000, .int "MOST_WRAPS" 6, .int "MOST_FINENESS" 120, .int "MOST_CONSTANT" 1000, .int "LEAST_BASE" 2, .int "MOST_BASE" 256, .int "MOST_PIECE" 60, .int "MOST_CODE" 120, .int "LAST_LENGTH" 999999999999999999999999999999999999999999999999999999999999, .str "TENS" "0123456789", .glo "Wrap", .cls "Wrap", .mkr "Wrap", .noat "Wrap" "kind", .noat "Wrap" "numbers", .noat "Wrap" "words", .meth "Wrap" "__init__", .meth "Wrap" "grown", .meth "Wrap" "__str__", .glo "Stack", .cls "Stack", .mkr "Stack", .noat "Stack" "base", .noat "Stack" "wraps", .noat "Stack" "fineness", .meth "Stack" "__init__", .meth "Stack" "grown", .meth "Stack" "__len__", .meth "Stack" "__str__", .glo "Road", .cls "Road", .mkr "Road", .noat "Road" "base", .noat "Road" "steps", .noat "Road" "stack", .noat "Road" "busy", .meth "Road" "__init__", .meth "Road" "push", .meth "Road" "pop", .meth "Road" "bound", .meth "Road" "undo", .meth "Road" "do_all", .meth "Road" "sizes", .meth "Road" "fits", .meth "Road" "greatest", .meth "Road" "stopper", .meth "Road" "idle", .meth "Road" "__len__", .meth "Road" "trial", .glo "Kept", .cls "Kept", .mkr "Kept", .noat "Kept" "steps", .noat "Kept" "stack", .noat "Kept" "ahead", .meth "Kept" "__init__", .glo "Trial", .cls "Trial", .mkr "Trial", .noat "Trial" "road", .noat "Trial" "kept", .meth "Trial" "__init__", .meth "Trial" "__enter__", .meth "Trial" "__exit__", .glo "RANGES", .glo "DEED_SIZES"]
def loose0 : List Str := ["_wall", "is_integer", "is_between", "check_length", "check_base", "figures_of", "amount_of", "fault_in", "begun", "total_of", "in_pieces", "wrap_in", "check_wrap", "fineness_of", "check_wraps", "stack_in", "greatest_within", "is_deed", "stack_behind", "sizes_along", "reaches", "least_reach", "check_free", "check_push", "add_step", "attempt", "_law_cell", "_law_pool", "_law_draw", "_law_far"]
def loose1 : List Str := ["_law_radix", "_law_length", "_law_constant", "_law_fine", "_law_wrap", "_law_figures", "_law_over", "_law_long", "_law_made", "_law_edge", "_law_move", "_law_put", "_law_moves", "_law_on", "_law_deed", "_law_go", "_law_track", "_law_told_of", "_law_at_once", "_law_taken_back", "_law_tried", "_law_moved_right", "_law_twice_right", "_law_right", "Misfit", "Untimely", "Excess", "NotAWrap", "InvalidKind", "InvalidBase"]
def loose2 : List Str := ["InvalidLength", "InvalidNumber", "InvalidText", "InvalidNumbers", "InvalidWraps", "InvalidDeeds", "NothingToPop", "NothingToUndo", "Busy", "TooFine", "TooManyWraps", "Wrap", "Stack", "Kept", "Trial", "Road", "MOST_LENGTH", "MOST_WRAPS", "MOST_FINENESS", "MOST_CONSTANT", "TENS", "LEAST_BASE", "MOST_BASE", "MOST_PIECE", "MOST_CODE", "RANGES", "DEED_SIZES", "LAST_LENGTH"]
def looseL : List Str := loose0 ++ loose1 ++ loose2
abbrev RR : PySem.W.OpenRow := PySem.W.OpenLaw.row PySem.Challenge.rw_sizestacks_k53_whole_roads_replayed
def tabL : List He.Tab := [(fun K => He.ga K "RANGES", ["plus", "told", "whole", "pieces", "cut", "coded", "filled"]), (fun K => He.ga K "DEED_SIZES", ["push", "pop", "bound"])]
def fbL (K : PySem.W.Frag) : Bool := [isiB K (He.ga K "Wrap"), isiB K (He.ga K "Stack"), isiB K (He.ga K "Road"), isiB K (He.ga K "Kept"), isiB K (He.ga K "Trial"), strB K (He.ga K "Wrap"), strB K (He.ga K "Stack"), decide (He.ga K "Trial" ≠ He.ga K "Road"), decide (He.ga K "Kept" ≠ He.ga K "Road"), decide (He.ga K "Kept" ≠ He.ga K "Trial"), decide (He.ga K "Road" ≠ He.ga K "Wrap"), decide (He.ga K "Road" ≠ He.ga K "Stack"), kitTabB K ["Wrap", "Stack", "Road"], rngB K (He.ga K "RANGES") (Wr.plus 0).kind (Wr.plus 0).rng, rngB K (He.ga K "RANGES") (Wr.told 0).kind (Wr.told 0).rng, rngB K (He.ga K "RANGES") (Wr.whole 0).kind (Wr.whole 0).rng, rngB K (He.ga K "RANGES") (Wr.pieces 0 0).kind (Wr.pieces 0 0).rng, rngB K (He.ga K "RANGES") (Wr.cut 0 0).kind (Wr.cut 0 0).rng, rngB K (He.ga K "RANGES") (Wr.coded 0 0).kind (Wr.coded 0 0).rng, rngB K (He.ga K "RANGES") (Wr.filled 0).kind (Wr.filled 0).rng, intInB K (He.ga K "DEED_SIZES") "push" 2, intInB K (He.ga K "DEED_SIZES") "pop" 1, intInB K (He.ga K "DEED_SIZES") "bound" 2].all id
abbrev hk : PySem.W.Hook := hookU 5 fbL faL fnL tabL tfL
def ob (z : PySem.W.SharedT) : Bool × AlX := obsUG 5 fbL faL fnL tabL tfL (HandSHeadRun.getT z)
theorem ob_eq (z : PySem.W.SharedT) : ob z = hk.obs z.abs := obsUG_eq (HandSHeadRun.getT_eq z)
theorem runF (w : World) : HandSHeadRun.RunEq RR (PySem.W.view RR.prog [95]) hk ob 30000 looseL (w.withFollow "special-get-raises" false) := by
  intro os
  kernel_rfl
theorem runT (w : World) : HandSHeadRun.RunEq RR (PySem.W.view RR.prog [95]) hk ob 30000 looseL (w.withFollow "special-get-raises" true) := by
  intro os
  kernel_rfl
theorem run (w : World) : HandSHeadRun.RunEq RR (PySem.W.view RR.prog [95]) hk ob 30000 looseL w :=
  PySem.W.byRow2 "special-get-raises" (P := fun w => HandSHeadRun.RunEq RR (PySem.W.view RR.prog [95]) hk ob 30000 looseL w) runF runT w
theorem tx_of {w : World} {K : PySem.W.Frag} {h : Heap} {mg : Str → Option Value} (X : K.In h) (G : h.Ns mainGlobals mg) (c0 : SaysX fbL faL fnL tabL w K) : Tx w K mg := by
  have c : He.SaysD faL fnL K := c0.t.d
  exact {
    d__wall := let ⟨fd, F⟩ := c.def_ 0 (d := dd__wall) rfl; ⟨_, fd, F, He.glo_ok X G (c.fact 0 (f := .glo "_wall") rfl)⟩,
    d_is_integer := let ⟨fd, F⟩ := c.def_ 1 (d := dd_is_integer) rfl; ⟨_, fd, F, He.glo_ok X G (c.fact 1 (f := .glo "is_integer") rfl)⟩,
    d_is_between := let ⟨fd, F⟩ := c.def_ 2 (d := dd_is_between) rfl; ⟨_, fd, F, He.glo_ok X G (c.fact 2 (f := .glo "is_between") rfl)⟩,
    d_check_length := let ⟨fd, F⟩ := c.def_ 3 (d := dd_check_length) rfl; ⟨_, fd, F, He.glo_ok X G (c.fact 3 (f := .glo "check_length") rfl)⟩,
    d_check_base := let ⟨fd, F⟩ := c.def_ 4 (d := dd_check_base) rfl; ⟨_, fd, F, He.glo_ok X G (c.fact 4 (f := .glo "check_base") rfl)⟩,
    d_figures_of := let ⟨fd, F⟩ := c.def_ 5 (d := dd_figures_of) rfl; ⟨_, fd, F, He.glo_ok X G (c.fact 5 (f := .glo "figures_of") rfl)⟩,
    d_amount_of := let ⟨fd, F⟩ := c.def_ 6 (d := dd_amount_of) rfl; ⟨_, fd, F, He.glo_ok X G (c.fact 6 (f := .glo "amount_of") rfl)⟩,
    d_fault_in := let ⟨fd, F⟩ := c.def_ 7 (d := dd_fault_in) rfl; ⟨_, fd, F, He.glo_ok X G (c.fact 7 (f := .glo "fault_in") rfl)⟩,
    d_begun := let ⟨fd, F⟩ := c.def_ 8 (d := dd_begun) rfl; ⟨_, fd, F, He.glo_ok X G (c.fact 8 (f := .glo "begun") rfl)⟩,
    d_total_of := let ⟨fd, F⟩ := c.def_ 9 (d := dd_total_of) rfl; ⟨_, fd, F, He.glo_ok X G (c.fact 9 (f := .glo "total_of") rfl)⟩,
    d_in_pieces := let ⟨fd, F⟩ := c.def_ 10 (d := dd_in_pieces) rfl; ⟨_, fd, F, He.glo_ok X G (c.fact 10 (f := .glo "in_pieces") rfl)⟩,
    d_wrap_in := let ⟨fd, F⟩ := c.def_ 11 (d := dd_wrap_in) rfl; ⟨_, fd, F, He.glo_ok X G (c.fact 11 (f := .glo "wrap_in") rfl)⟩,
    d_check_wrap := let ⟨fd, F⟩ := c.def_ 12 (d := dd_check_wrap) rfl; ⟨_, fd, F, He.glo_ok X G (c.fact 12 (f := .glo "check_wrap") rfl)⟩,
    d_fineness_of := let ⟨fd, F⟩ := c.def_ 13 (d := dd_fineness_of) rfl; ⟨_, fd, F, He.glo_ok X G (c.fact 13 (f := .glo "fineness_of") rfl)⟩,
    d_check_wraps := let ⟨fd, F⟩ := c.def_ 14 (d := dd_check_wraps) rfl; ⟨_, fd, F, He.glo_ok X G (c.fact 14 (f := .glo "check_wraps") rfl)⟩,
    d_stack_in := let ⟨fd, F⟩ := c.def_ 15 (d := dd_stack_in) rfl; ⟨_, fd, F, He.glo_ok X G (c.fact 15 (f := .glo "stack_in") rfl)⟩,
    d_greatest_within := let ⟨fd, F⟩ := c.def_ 16 (d := dd_greatest_within) rfl; ⟨_, fd, F, He.glo_ok X G (c.fact 16 (f := .glo "greatest_within") rfl)⟩,
    d_is_deed := let ⟨fd, F⟩ := c.def_ 17 (d := dd_is_deed) rfl; ⟨_, fd, F, He.glo_ok X G (c.fact 17 (f := .glo "is_deed") rfl)⟩,
    d_stack_behind := let ⟨fd, F⟩ := c.def_ 18 (d := dd_stack_behind) rfl; ⟨_, fd, F, He.glo_ok X G (c.fact 18 (f := .glo "stack_behind") rfl)⟩,
    d_sizes_along := let ⟨fd, F⟩ := c.def_ 19 (d := dd_sizes_along) rfl; ⟨_, fd, F, He.glo_ok X G (c.fact 19 (f := .glo "sizes_along") rfl)⟩,
    d_reaches := let ⟨fd, F⟩ := c.def_ 20 (d := dd_reaches) rfl; ⟨_, fd, F, He.glo_ok X G (c.fact 20 (f := .glo "reaches") rfl)⟩,
    d_least_reach := let ⟨fd, F⟩ := c.def_ 21 (d := dd_least_reach) rfl; ⟨_, fd, F, He.glo_ok X G (c.fact 21 (f := .glo "least_reach") rfl)⟩,
    d_check_free := let ⟨fd, F⟩ := c.def_ 22 (d := dd_check_free) rfl; ⟨_, fd, F, He.glo_ok X G (c.fact 22 (f := .glo "check_free") rfl)⟩,
    d_check_push := let ⟨fd, F⟩ := c.def_ 23 (d := dd_check_push) rfl; ⟨_, fd, F, He.glo_ok X G (c.fact 23 (f := .glo "check_push") rfl)⟩,
    d_add_step := let ⟨fd, F⟩ := c.def_ 24 (d := dd_add_step) rfl; ⟨_, fd, F, He.glo_ok X G (c.fact 24 (f := .glo "add_step") rfl)⟩,
    d_attempt := let ⟨fd, F⟩ := c.def_ 25 (d := dd_attempt) rfl; ⟨_, fd, F, He.glo_ok X G (c.fact 25 (f := .glo "attempt") rfl)⟩,
    d_L_cell := let ⟨fd, F⟩ := c.def_ 26 (d := dd_L_cell) rfl; ⟨_, fd, F, He.glo_ok X G (c.fact 26 (f := .glo "_law_cell") rfl)⟩,
    d_L_pool := let ⟨fd, F⟩ := c.def_ 27 (d := dd_L_pool) rfl; ⟨_, fd, F, He.glo_ok X G (c.fact 27 (f := .glo "_law_pool") rfl)⟩,
    d_L_draw := let ⟨fd, F⟩ := c.def_ 28 (d := dd_L_draw) rfl; ⟨_, fd, F, He.glo_ok X G (c.fact 28 (f := .glo "_law_draw") rfl)⟩,
    d_L_far := let ⟨fd, F⟩ := c.def_ 29 (d := dd_L_far) rfl; ⟨_, fd, F, He.glo_ok X G (c.fact 29 (f := .glo "_law_far") rfl)⟩,
    d_L_radix := let ⟨fd, F⟩ := c.def_ 30 (d := dd_L_radix) rfl; ⟨_, fd, F, He.glo_ok X G (c.fact 30 (f := .glo "_law_radix") rfl)⟩,
    d_L_length := let ⟨fd, F⟩ := c.def_ 31 (d := dd_L_length) rfl; ⟨_, fd, F, He.glo_ok X G (c.fact 31 (f := .glo "_law_length") rfl)⟩,
    d_L_constant := let ⟨fd, F⟩ := c.def_ 32 (d := dd_L_constant) rfl; ⟨_, fd, F, He.glo_ok X G (c.fact 32 (f := .glo "_law_constant") rfl)⟩,
    d_L_fine := let ⟨fd, F⟩ := c.def_ 33 (d := dd_L_fine) rfl; ⟨_, fd, F, He.glo_ok X G (c.fact 33 (f := .glo "_law_fine") rfl)⟩,
    d_L_wrap := let ⟨fd, F⟩ := c.def_ 34 (d := dd_L_wrap) rfl; ⟨_, fd, F, He.glo_ok X G (c.fact 34 (f := .glo "_law_wrap") rfl)⟩,
    d_L_figures := let ⟨fd, F⟩ := c.def_ 35 (d := dd_L_figures) rfl; ⟨_, fd, F, He.glo_ok X G (c.fact 35 (f := .glo "_law_figures") rfl)⟩,
    d_L_over := let ⟨fd, F⟩ := c.def_ 36 (d := dd_L_over) rfl; ⟨_, fd, F, He.glo_ok X G (c.fact 36 (f := .glo "_law_over") rfl)⟩,
    d_L_long := let ⟨fd, F⟩ := c.def_ 37 (d := dd_L_long) rfl; ⟨_, fd, F, He.glo_ok X G (c.fact 37 (f := .glo "_law_long") rfl)⟩,
    d_L_made := let ⟨fd, F⟩ := c.def_ 38 (d := dd_L_made) rfl; ⟨_, fd, F, He.glo_ok X G (c.fact 38 (f := .glo "_law_made") rfl)⟩,
    d_L_edge := let ⟨fd, F⟩ := c.def_ 39 (d := dd_L_edge) rfl; ⟨_, fd, F, He.glo_ok X G (c.fact 39 (f := .glo "_law_edge") rfl)⟩,
    d_L_move := let ⟨fd, F⟩ := c.def_ 40 (d := dd_L_move) rfl; ⟨_, fd, F, He.glo_ok X G (c.fact 40 (f := .glo "_law_move") rfl)⟩,
    d_L_put := let ⟨fd, F⟩ := c.def_ 41 (d := dd_L_put) rfl; ⟨_, fd, F, He.glo_ok X G (c.fact 41 (f := .glo "_law_put") rfl)⟩,
    d_L_moves := let ⟨fd, F⟩ := c.def_ 42 (d := dd_L_moves) rfl; ⟨_, fd, F, He.glo_ok X G (c.fact 42 (f := .glo "_law_moves") rfl)⟩,
    d_L_on := let ⟨fd, F⟩ := c.def_ 43 (d := dd_L_on) rfl; ⟨_, fd, F, He.glo_ok X G (c.fact 43 (f := .glo "_law_on") rfl)⟩,
    d_L_deed := let ⟨fd, F⟩ := c.def_ 44 (d := dd_L_deed) rfl; ⟨_, fd, F, He.glo_ok X G (c.fact 44 (f := .glo "_law_deed") rfl)⟩,
    d_L_go := let ⟨fd, F⟩ := c.def_ 45 (d := dd_L_go) rfl; ⟨_, fd, F, He.glo_ok X G (c.fact 45 (f := .glo "_law_go") rfl)⟩,
    d_L_track := let ⟨fd, F⟩ := c.def_ 46 (d := dd_L_track) rfl; ⟨_, fd, F, He.glo_ok X G (c.fact 46 (f := .glo "_law_track") rfl)⟩,
    d_L_told_of := let ⟨fd, F⟩ := c.def_ 47 (d := dd_L_told_of) rfl; ⟨_, fd, F, He.glo_ok X G (c.fact 47 (f := .glo "_law_told_of") rfl)⟩,
    d_L_at_once := let ⟨fd, F⟩ := c.def_ 48 (d := dd_L_at_once) rfl; ⟨_, fd, F, He.glo_ok X G (c.fact 48 (f := .glo "_law_at_once") rfl)⟩,
    d_L_taken_back := let ⟨fd, F⟩ := c.def_ 49 (d := dd_L_taken_back) rfl; ⟨_, fd, F, He.glo_ok X G (c.fact 49 (f := .glo "_law_taken_back") rfl)⟩,
    d_L_tried := let ⟨fd, F⟩ := c.def_ 50 (d := dd_L_tried) rfl; ⟨_, fd, F, He.glo_ok X G (c.fact 50 (f := .glo "_law_tried") rfl)⟩,
    d_L_moved_right := let ⟨fd, F⟩ := c.def_ 51 (d := dd_L_moved_right) rfl; ⟨_, fd, F, He.glo_ok X G (c.fact 51 (f := .glo "_law_moved_right") rfl)⟩,
    d_L_twice_right := let ⟨fd, F⟩ := c.def_ 52 (d := dd_L_twice_right) rfl; ⟨_, fd, F, He.glo_ok X G (c.fact 52 (f := .glo "_law_twice_right") rfl)⟩,
    d_L_right := let ⟨fd, F⟩ := c.def_ 53 (d := dd_L_right) rfl; ⟨_, fd, F, He.glo_ok X G (c.fact 53 (f := .glo "_law_right") rfl)⟩,
    d_law := let ⟨fd, F⟩ := c.def_ 54 (d := dd_law) rfl; ⟨_, fd, F, He.glo_ok X G (c.fact 54 (f := .glo "law") rfl)⟩,
    b_abs := He.free_ok X G (c.fact 55 (f := .free "abs") rfl),
    b_all := He.free_ok X G (c.fact 56 (f := .free "all") rfl),
    b_divmod := He.free_ok X G (c.fact 57 (f := .free "divmod") rfl),
    b_enumerate := He.free_ok X G (c.fact 58 (f := .free "enumerate") rfl),
    b_int := He.free_ok X G (c.fact 59 (f := .free "int") rfl),
    b_isinstance := He.free_ok X G (c.fact 60 (f := .free "isinstance") rfl),
    b_len := He.free_ok X G (c.fact 61 (f := .free "len") rfl),
    b_max := He.free_ok X G (c.fact 62 (f := .free "max") rfl),
    b_min := He.free_ok X G (c.fact 63 (f := .free "min") rfl),
    b_range := He.free_ok X G (c.fact 64 (f := .free "range") rfl),
    b_repr := He.free_ok X G (c.fact 65 (f := .free "repr") rfl),
    b_str := He.free_ok X G (c.fact 66 (f := .free "str") rfl),
    b_tuple := He.free_ok X G (c.fact 67 (f := .free "tuple") rfl),
    b_zip := He.free_ok X G (c.fact 68 (f := .free "zip") rfl),
    c_MOST_LENGTH := He.int_ok X G (c.fact 69 (f := .int "MOST_LENGTH" 1000000000000000000000000000000000000000000000000000000000000) rfl),
    c_MOST_WRAPS := He.int_ok X G (c.fact 70 (f := .int "MOST_WRAPS" 6) rfl),
    c_MOST_FINENESS := He.int_ok X G (c.fact 71 (f := .int "MOST_FINENESS" 120) rfl),
    c_MOST_CONSTANT := He.int_ok X G (c.fact 72 (f := .int "MOST_CONSTANT" 1000) rfl),
    c_LEAST_BASE := He.int_ok X G (c.fact 73 (f := .int "LEAST_BASE" 2) rfl),
    c_MOST_BASE := He.int_ok X G (c.fact 74 (f := .int "MOST_BASE" 256) rfl),
    c_MOST_PIECE := He.int_ok X G (c.fact 75 (f := .int "MOST_PIECE" 60) rfl),
    c_MOST_CODE := He.int_ok X G (c.fact 76 (f := .int "MOST_CODE" 120) rfl),
    c_LAST_LENGTH := He.int_ok X G (c.fact 77 (f := .int "LAST_LENGTH" 999999999999999999999999999999999999999999999999999999999999) rfl),
    c_TENS := He.str_ok X G (c.fact 78 (f := .str "TENS" "0123456789") rfl),
    k_Wrap := He.glo_ok X G (c.fact 79 (f := .glo "Wrap") rfl),
    cl_Wrap := He.cls_ok (c.fact 80 (f := .cls "Wrap") rfl),
    mk_Wrap := He.mkr_ok (c.fact 81 (f := .mkr "Wrap") rfl),
    na_Wrap_kind := He.noat_ok (c.fact 82 (f := .noat "Wrap" "kind") rfl),
    na_Wrap_numbers := He.noat_ok (c.fact 83 (f := .noat "Wrap" "numbers") rfl),
    na_Wrap_words := He.noat_ok (c.fact 84 (f := .noat "Wrap" "words") rfl),
    me_Wrap___init__ := He.meth_ok (c.fact 85 (f := .meth "Wrap" "__init__") rfl),
    me_Wrap_grown := He.meth_ok (c.fact 86 (f := .meth "Wrap" "grown") rfl),
    me_Wrap___str__ := He.meth_ok (c.fact 87 (f := .meth "Wrap" "__str__") rfl),
    k_Stack := He.glo_ok X G (c.fact 88 (f := .glo "Stack") rfl),
    cl_Stack := He.cls_ok (c.fact 89 (f := .cls "Stack") rfl),
    mk_Stack := He.mkr_ok (c.fact 90 (f := .mkr "Stack") rfl),
    na_Stack_base := He.noat_ok (c.fact 91 (f := .noat "Stack" "base") rfl),
    na_Stack_wraps := He.noat_ok (c.fact 92 (f := .noat "Stack" "wraps") rfl),
    na_Stack_fineness := He.noat_ok (c.fact 93 (f := .noat "Stack" "fineness") rfl),
    me_Stack___init__ := He.meth_ok (c.fact 94 (f := .meth "Stack" "__init__") rfl),
    me_Stack_grown := He.meth_ok (c.fact 95 (f := .meth "Stack" "grown") rfl),
    me_Stack___len__ := He.meth_ok (c.fact 96 (f := .meth "Stack" "__len__") rfl),
    me_Stack___str__ := He.meth_ok (c.fact 97 (f := .meth "Stack" "__str__") rfl),
    k_Road := He.glo_ok X G (c.fact 98 (f := .glo "Road") rfl),
    cl_Road := He.cls_ok (c.fact 99 (f := .cls "Road") rfl),
    mk_Road := He.mkr_ok (c.fact 100 (f := .mkr "Road") rfl),
    na_Road_base := He.noat_ok (c.fact 101 (f := .noat "Road" "base") rfl),
    na_Road_steps := He.noat_ok (c.fact 102 (f := .noat "Road" "steps") rfl),
    na_Road_stack := He.noat_ok (c.fact 103 (f := .noat "Road" "stack") rfl),
    na_Road_busy := He.noat_ok (c.fact 104 (f := .noat "Road" "busy") rfl),
    me_Road___init__ := He.meth_ok (c.fact 105 (f := .meth "Road" "__init__") rfl),
    me_Road_push := He.meth_ok (c.fact 106 (f := .meth "Road" "push") rfl),
    me_Road_pop := He.meth_ok (c.fact 107 (f := .meth "Road" "pop") rfl),
    me_Road_bound := He.meth_ok (c.fact 108 (f := .meth "Road" "bound") rfl),
    me_Road_undo := He.meth_ok (c.fact 109 (f := .meth "Road" "undo") rfl),
    me_Road_do_all := He.meth_ok (c.fact 110 (f := .meth "Road" "do_all") rfl),
    me_Road_sizes := He.meth_ok (c.fact 111 (f := .meth "Road" "sizes") rfl),
    me_Road_fits := He.meth_ok (c.fact 112 (f := .meth "Road" "fits") rfl),
    me_Road_greatest := He.meth_ok (c.fact 113 (f := .meth "Road" "greatest") rfl),
    me_Road_stopper := He.meth_ok (c.fact 114 (f := .meth "Road" "stopper") rfl),
    me_Road_idle := He.meth_ok (c.fact 115 (f := .meth "Road" "idle") rfl),
    me_Road___len__ := He.meth_ok (c.fact 116 (f := .meth "Road" "__len__") rfl),
    me_Road_trial := He.meth_ok (c.fact 117 (f := .meth "Road" "trial") rfl),
    k_Kept := He.glo_ok X G (c.fact 118 (f := .glo "Kept") rfl),
    cl_Kept := He.cls_ok (c.fact 119 (f := .cls "Kept") rfl),
    mk_Kept := He.mkr_ok (c.fact 120 (f := .mkr "Kept") rfl),
    na_Kept_steps := He.noat_ok (c.fact 121 (f := .noat "Kept" "steps") rfl),
    na_Kept_stack := He.noat_ok (c.fact 122 (f := .noat "Kept" "stack") rfl),
    na_Kept_ahead := He.noat_ok (c.fact 123 (f := .noat "Kept" "ahead") rfl),
    me_Kept___init__ := He.meth_ok (c.fact 124 (f := .meth "Kept" "__init__") rfl),
    k_Trial := He.glo_ok X G (c.fact 125 (f := .glo "Trial") rfl),
    cl_Trial := He.cls_ok (c.fact 126 (f := .cls "Trial") rfl),
    mk_Trial := He.mkr_ok (c.fact 127 (f := .mkr "Trial") rfl),
    na_Trial_road := He.noat_ok (c.fact 128 (f := .noat "Trial" "road") rfl),
    na_Trial_kept := He.noat_ok (c.fact 129 (f := .noat "Trial" "kept") rfl),
    me_Trial___init__ := He.meth_ok (c.fact 130 (f := .meth "Trial" "__init__") rfl),
    me_Trial___enter__ := He.meth_ok (c.fact 131 (f := .meth "Trial" "__enter__") rfl),
    me_Trial___exit__ := He.meth_ok (c.fact 132 (f := .meth "Trial" "__exit__") rfl),
    k_RANGES := He.glo_ok X G (c.fact 133 (f := .glo "RANGES") rfl),
    k_DEED_SIZES := He.glo_ok X G (c.fact 134 (f := .glo "DEED_SIZES") rfl),
    dt_L_tried := let ⟨fd, F⟩ := c.def_ 50 (d := dd_L_tried) rfl; ⟨fd, F, He.glo_ok X G (c.fact 50 (f := .glo "_law_tried") rfl)⟩,
    dm_Wrap___init__ := c.def_ 55 (d := dd_Wrap___init__) rfl,
    dm_Wrap_grown := c.def_ 56 (d := dd_Wrap_grown) rfl,
    dm_Wrap___str__ := c.def_ 57 (d := dd_Wrap___str__) rfl,
    dm_Stack___init__ := c.def_ 58 (d := dd_Stack___init__) rfl,
    dm_Stack_grown := c.def_ 59 (d := dd_Stack_grown) rfl,
    dm_Stack___len__ := c.def_ 60 (d := dd_Stack___len__) rfl,
    dm_Stack___str__ := c.def_ 61 (d := dd_Stack___str__) rfl,
    dm_Road___init__ := c.def_ 62 (d := dd_Road___init__) rfl,
    dm_Road_push := c.def_ 63 (d := dd_Road_push) rfl,
    dm_Road_pop := c.def_ 64 (d := dd_Road_pop) rfl,
    dm_Road_bound := c.def_ 65 (d := dd_Road_bound) rfl,
    dm_Road_undo := c.def_ 66 (d := dd_Road_undo) rfl,
    dm_Road_do_all := c.def_ 67 (d := dd_Road_do_all) rfl,
    dm_Road_sizes := c.def_ 68 (d := dd_Road_sizes) rfl,
    dm_Road_fits := c.def_ 69 (d := dd_Road_fits) rfl,
    dm_Road_greatest := c.def_ 70 (d := dd_Road_greatest) rfl,
    dm_Road_stopper := c.def_ 71 (d := dd_Road_stopper) rfl,
    dm_Road_idle := c.def_ 72 (d := dd_Road_idle) rfl,
    dm_Road___len__ := c.def_ 73 (d := dd_Road___len__) rfl,
    dm_Road_trial := c.def_ 74 (d := dd_Road_trial) rfl,
    dm_Kept___init__ := c.def_ 75 (d := dd_Kept___init__) rfl,
    dm_Trial___init__ := c.def_ 76 (d := dd_Trial___init__) rfl,
    dm_Trial___enter__ := c.def_ 77 (d := dd_Trial___enter__) rfl,
    dm_Trial___exit__ := c.def_ 78 (d := dd_Trial___exit__) rfl,
    kd := c0.t.tab 0 (t := (fun K => He.ga K "RANGES", ["plus", "told", "whole", "pieces", "cut", "coded", "filled"])) rfl,
    rg := fun a => by
      cases a with
      | plus _ => exact rngB_ok (K := K) (kd := (Wr.plus 0).kind) (qs := (Wr.plus 0).rng) (List.all_eq_true.mp c0.b _ (.tail _ (.tail _ (.tail _ (.tail _ (.tail _ (.tail _ (.tail _ (.tail _ (.tail _ (.tail _ (.tail _ (.tail _ (.tail _ (.head _)))))))))))))))
      | told _ => exact rngB_ok (K := K) (kd := (Wr.told 0).kind) (qs := (Wr.told 0).rng) (List.all_eq_true.mp c0.b _ (.tail _ (.tail _ (.tail _ (.tail _ (.tail _ (.tail _ (.tail _ (.tail _ (.tail _ (.tail _ (.tail _ (.tail _ (.tail _ (.tail _ (.head _))))))))))))))))
      | whole _ => exact rngB_ok (K := K) (kd := (Wr.whole 0).kind) (qs := (Wr.whole 0).rng) (List.all_eq_true.mp c0.b _ (.tail _ (.tail _ (.tail _ (.tail _ (.tail _ (.tail _ (.tail _ (.tail _ (.tail _ (.tail _ (.tail _ (.tail _ (.tail _ (.tail _ (.tail _ (.head _)))))))))))))))))
      | pieces _ _ => exact rngB_ok (K := K) (kd := (Wr.pieces 0 0).kind) (qs := (Wr.pieces 0 0).rng) (List.all_eq_true.mp c0.b _ (.tail _ (.tail _ (.tail _ (.tail _ (.tail _ (.tail _ (.tail _ (.tail _ (.tail _ (.tail _ (.tail _ (.tail _ (.tail _ (.tail _ (.tail _ (.tail _ (.head _))))))))))))))))))
      | cut _ _ => exact rngB_ok (K := K) (kd := (Wr.cut 0 0).kind) (qs := (Wr.cut 0 0).rng) (List.all_eq_true.mp c0.b _ (.tail _ (.tail _ (.tail _ (.tail _ (.tail _ (.tail _ (.tail _ (.tail _ (.tail _ (.tail _ (.tail _ (.tail _ (.tail _ (.tail _ (.tail _ (.tail _ (.tail _ (.head _)))))))))))))))))))
      | coded _ _ => exact rngB_ok (K := K) (kd := (Wr.coded 0 0).kind) (qs := (Wr.coded 0 0).rng) (List.all_eq_true.mp c0.b _ (.tail _ (.tail _ (.tail _ (.tail _ (.tail _ (.tail _ (.tail _ (.tail _ (.tail _ (.tail _ (.tail _ (.tail _ (.tail _ (.tail _ (.tail _ (.tail _ (.tail _ (.tail _ (.head _))))))))))))))))))))
      | filled _ => exact rngB_ok (K := K) (kd := (Wr.filled 0).kind) (qs := (Wr.filled 0).rng) (List.all_eq_true.mp c0.b _ (.tail _ (.tail _ (.tail _ (.tail _ (.tail _ (.tail _ (.tail _ (.tail _ (.tail _ (.tail _ (.tail _ (.tail _ (.tail _ (.tail _ (.tail _ (.tail _ (.tail _ (.tail _ (.tail _ (.head _))))))))))))))))))))),
    is_Wrap := isiB_ok (He.cls_ok (c.fact 80 (f := .cls "Wrap") rfl)) (List.all_eq_true.mp c0.b _ (.head _)),
    is_Stack := isiB_ok (He.cls_ok (c.fact 89 (f := .cls "Stack") rfl)) (List.all_eq_true.mp c0.b _ (.tail _ (.head _))),
    is_Road := isiB_ok (He.cls_ok (c.fact 99 (f := .cls "Road") rfl)) (List.all_eq_true.mp c0.b _ (.tail _ (.tail _ (.head _)))),
    is_Kept := isiB_ok (He.cls_ok (c.fact 119 (f := .cls "Kept") rfl)) (List.all_eq_true.mp c0.b _ (.tail _ (.tail _ (.tail _ (.head _))))),
    is_Trial := isiB_ok (He.cls_ok (c.fact 126 (f := .cls "Trial") rfl)) (List.all_eq_true.mp c0.b _ (.tail _ (.tail _ (.tail _ (.tail _ (.head _)))))),
    ne_Trial_Road := of_decide_eq_true (List.all_eq_true.mp c0.b _ (.tail _ (.tail _ (.tail _ (.tail _ (.tail _ (.tail _ (.tail _ (.head _))))))))),
    ne_Kept_Road := of_decide_eq_true (List.all_eq_true.mp c0.b _ (.tail _ (.tail _ (.tail _ (.tail _ (.tail _ (.tail _ (.tail _ (.tail _ (.head _)))))))))),
    ne_Kept_Trial := of_decide_eq_true (List.all_eq_true.mp c0.b _ (.tail _ (.tail _ (.tail _ (.tail _ (.tail _ (.tail _ (.tail _ (.tail _ (.tail _ (.head _))))))))))),
    ne_Road_Wrap := of_decide_eq_true (List.all_eq_true.mp c0.b _ (.tail _ (.tail _ (.tail _ (.tail _ (.tail _ (.tail _ (.tail _ (.tail _ (.tail _ (.tail _ (.head _)))))))))))),
    ne_Road_Stack := of_decide_eq_true (List.all_eq_true.mp c0.b _ (.tail _ (.tail _ (.tail _ (.tail _ (.tail _ (.tail _ (.tail _ (.tail _ (.tail _ (.tail _ (.tail _ (.head _))))))))))))),
    st_Wrap := strB_ok (List.all_eq_true.mp c0.b _ (.tail _ (.tail _ (.tail _ (.tail _ (.tail _ (.head _))))))),
    st_Stack := strB_ok (List.all_eq_true.mp c0.b _ (.tail _ (.tail _ (.tail _ (.tail _ (.tail _ (.tail _ (.head _)))))))),
    kt := kitTab_ok (List.all_eq_true.mp c0.b _ (.tail _ (.tail _ (.tail _ (.tail _ (.tail _ (.tail _ (.tail _ (.tail _ (.tail _ (.tail _ (.tail _ (.tail _ (.head _)))))))))))))),
    dk := c0.t.tab 1 (t := (fun K => He.ga K "DEED_SIZES", ["push", "pop", "bound"])) rfl,
    dz_push := intInB_ok (List.all_eq_true.mp c0.b _ (.tail _ (.tail _ (.tail _ (.tail _ (.tail _ (.tail _ (.tail _ (.tail _ (.tail _ (.tail _ (.tail _ (.tail _ (.tail _ (.tail _ (.tail _ (.tail _ (.tail _ (.tail _ (.tail _ (.tail _ (.head _)))))))))))))))))))))),
    dz_pop := intInB_ok (List.all_eq_true.mp c0.b _ (.tail _ (.tail _ (.tail _ (.tail _ (.tail _ (.tail _ (.tail _ (.tail _ (.tail _ (.tail _ (.tail _ (.tail _ (.tail _ (.tail _ (.tail _ (.tail _ (.tail _ (.tail _ (.tail _ (.tail _ (.tail _ (.head _))))))))))))))))))))))),
    dz_bound := intInB_ok (List.all_eq_true.mp c0.b _ (.tail _ (.tail _ (.tail _ (.tail _ (.tail _ (.tail _ (.tail _ (.tail _ (.tail _ (.tail _ (.tail _ (.tail _ (.tail _ (.tail _ (.tail _ (.tail _ (.tail _ (.tail _ (.tail _ (.tail _ (.tail _ (.tail _ (.head _)))))))))))))))))))))))) }
def spLaw (K : PySem.W.Frag) : Sp := fun vs H Q _ => ∃ (a : Addr) (ns : List Int), vs = [.ref a] ∧ SqL K H a (ns.map V.int) ∧ ns.length ≤ 63 ∧ (∀ z ∈ ns, Builtin.Int.intBits z ≤ 1048576) ∧ LamX.Tabs (tabsOf K) H ∧ ∀ H', Q (.bl true) H'

/-! ### errors that leave -/
/-- an error of the class C leaves, with v in its field f -/
def Fails (K : PySem.W.Frag) (H : Hp) (E : XK) (C f : Str) (v : V) : Prop := ∀ d, H d = none → E (.ref (He.ga K C)) (some d) (upd H d (.xd [(f, v)]))
/-! ### what a number is (for numbers alone) -/
def spIsInt : Sp := fun vs H Q _ => ∃ i : Int, vs = [.int i] ∧ Q (.bl true) H
def spBetween : Sp := fun vs H Q _ => ∃ v l m : Int, vs = [.int v, .int l, .int m] ∧ Q (.bl (decide (l ≤ v ∧ v ≤ m))) H
def spLength : Sp := fun vs H Q _ => ∃ n : Int, vs = [.int n] ∧ 0 ≤ n ∧ n ≤ 10 ^ 60 - 1 ∧ Q .non H
def spBase : Sp := fun vs H Q _ => ∃ n : Int, vs = [.int n] ∧ 2 ≤ n ∧ n ≤ 256 ∧ Q .non H
def spFig : Sp := fun vs H Q _ => ∃ n b : Int, vs = [.int n, .int b] ∧ 2 ≤ b ∧ b ≤ 256 ∧ n < 2 ^ 4000 ∧ ∀ k, IsF b n k → Q (.int k) H
section
variable {P : Program} {w : World} {K : PySem.W.Frag} {mg : Str → Option Value} {base : Heap}
theorem ok_is_integer (T : Tx w K mg) : Prom P w K mg base CX0 1 "is_integer" s_is_integer ["value"] spIsInt := by
  refine Prom.of T.d_is_integer sc_is_integer (fun vs H Q E h => ?_) (fun _ _ _ _ _ _ us hl => match us, hl with | [_], _ => rfl) (fun f cdv A outer s H vs Q E hr h => ?_)
  · obtain ⟨i, rfl, _⟩ := h
    rfl
  · obtain ⟨i, rfl, k⟩ := h
    refine ⟨_, (pss_one (ps_ret (pe_and (pe_callB call_isi (by rfl) T.b_isinstance (by decide +kernel) (pa_cons (pv 0) (pa_cons (pe_bltn (v := .ty "int") (by rfl) T.b_int (by decide +kernel) rfl) pa_nil))) (pe_and (pe_cmpR op_isnotBl (pv 0) pe_bl (nomark _)) (pe_one (pe_cmpR op_isnotBl (pv 0) pe_bl (nomark _))))))), ?_⟩
    refine ⟨_, rfl, _, _, _, _, true, rfl, .ty _, .base (.int _), kit_ty (by decide +kernel), true, rfl, iteT ?_⟩
    refine ⟨_, rfl, _, rfl, true, rfl, iteT ?_⟩
    exact ⟨_, rfl, _, rfl, k⟩
theorem ok_is_between (T : Tx w K mg) : Prom P w K mg base CX0 2 "is_between" s_is_between ["value", "least", "most"] spBetween := by
  refine Prom.of T.d_is_between sc_is_between (fun vs H Q E h => ?_) (fun _ _ _ _ _ _ us hl => match us, hl with | [_, _, _], _ => rfl) (fun f cdv A outer s H vs Q E hr h => ?_)
  · obtain ⟨v, l, m, rfl, _⟩ := h
    rfl
  · obtain ⟨v, l, m, rfl, k⟩ := h
    refine ⟨_, (pss_one (ps_ret (pe_and (pe_callP (ok_is_integer T) (hr.mono (by decide)) (by rfl) pass0 (pa_cons (pv 0) pa_nil)) (pe_one (pe_chain op_le op_le (pv 1) (pv 0) (pv 2)))))), ?_⟩
    refine ⟨_, rfl, v, rfl, true, rfl, iteT ?_⟩
    refine ⟨_, rfl, _, rfl, _, _, rfl, rfl, _, rfl, ifd (fun h1 => ?_) (fun h1 => ?_)⟩
    · refine ⟨_, rfl, _, _, rfl, rfl, ?_⟩
      show Q (.bl (decide (v ≤ m))) H
      have e : decide (v ≤ m) = decide (l ≤ v ∧ v ≤ m) := by simp [h1]
      rw [e]
      exact k
    · show Q (.bl false) H
      have e : false = decide (l ≤ v ∧ v ≤ m) := by simp [h1]
      rw [e]
      exact k
end
section
variable {P : Program} {w : World} {K : PySem.W.Frag} {mg : Str → Option Value} {base : Heap}
theorem ok_check_length (T : Tx w K mg) : Prom P w K mg base CX0 3 "check_length" s_check_length ["value"] spLength := by
  refine Prom.of T.d_check_length sc_check_length (fun vs H Q E h => ?_) (fun _ _ _ _ _ _ us hl => match us, hl with | [_], _ => rfl) (fun f cdv A outer s H vs Q E hr h => ?_)
  · obtain ⟨i, rfl, _⟩ := h
    rfl
  · obtain ⟨i, rfl, h0, h1, k⟩ := h
    refine ⟨_, (pss_one (ps_if (pt_not (pt_val (pe_callP (ok_is_between T) (hr.mono (by decide)) (by rfl) pass0 (pa_cons (pv 0) (pa_cons pe_int (pa_cons (pe_op op_sub (pe_gint T.c_MOST_LENGTH) pe_int) pa_nil)))))) (pss_one ps_never) pss_nil)), ?_⟩
    refine ⟨_, rfl, _, _, rfl, rfl, _, _, _, rfl, _, rfl, ?_⟩
    exact ifn (fun c => absurd (show (0 : Int) ≤ i ∧ i ≤ _ from ⟨h0, by omega⟩) c) (fun _ => k)
end
section
variable {P : Program} {w : World} {K : PySem.W.Frag} {mg : Str → Option Value} {base : Heap}
theorem ok_check_base (T : Tx w K mg) : Prom P w K mg base CX0 3 "check_base" s_check_base ["value"] spBase := by
  refine Prom.of T.d_check_base sc_check_base (fun vs H Q E h => ?_) (fun _ _ _ _ _ _ us hl => match us, hl with | [_], _ => rfl) (fun f cdv A outer s H vs Q E hr h => ?_)
  · obtain ⟨i, rfl, _⟩ := h
    rfl
  · obtain ⟨i, rfl, h0, h1, k⟩ := h
    refine ⟨_, (pss_one (ps_if (pt_not (pt_val (pe_callP (ok_is_between T) (hr.mono (by decide)) (by rfl) pass0 (pa_cons (pv 0) (pa_cons (pe_gint T.c_LEAST_BASE) (pa_cons (pe_gint T.c_MOST_BASE) pa_nil)))))) (pss_one ps_never) pss_nil)), ?_⟩
    refine ⟨_, rfl, _, _, _, rfl, _, rfl, ?_⟩
    exact ifn (fun c => absurd (show (2 : Int) ≤ i ∧ i ≤ 256 from ⟨h0, h1⟩) c) (fun _ => k)
end
section
variable {P : Program} {w : World} {K : PySem.W.Frag} {mg : Str → Option Value} {base : Heap}
theorem fig_mul {b p e n : Int} {j : Nat} (hb : 2 ≤ b) (hb2 : b ≤ 256) (hn : n < 2 ^ 4000) (hp : p = b ^ (j + 1)) (hj : j = 0 ∨ b ^ j ≤ n) (he : e = b ^ 8) : CMulW p e := by
  have b8 : b ^ 8 ≤ 256 ^ 8 := by
    have g : ∀ m : Nat, b ^ m ≤ 256 ^ m := fun m => by
      induction m with
      | zero => rw [Int.pow_zero, Int.pow_zero]; exact Int.le_refl _
      | succ m ih =>
        rw [Int.pow_succ, Int.pow_succ]
        exact Int.mul_le_mul ih hb2 (by omega) (Int.le_of_lt (Int.lt_of_lt_of_le (by decide) (pow_pos (show (1 : Int) ≤ 256 by decide) m)))
    exact g 8
  have p1 := pow_pos (show 1 ≤ b by omega) (j + 1)
  have p8 := pow_pos (show 1 ≤ b by omega) 8
  have hq : b ^ j ≤ 2 ^ 4000 := by
    rcases hj with h | h
    · rw [h, Int.pow_zero]
      exact pow_pos (by decide) 4000
    · omega
  have pj := pow_pos (show 1 ≤ b by omega) j
  have hp2 : p ≤ 2 ^ 4000 * 256 := by
    rw [hp, Int.pow_succ]
    exact Int.mul_le_mul hq hb2 (by omega) (Int.le_of_lt (Int.lt_of_lt_of_le (by decide) (pow_pos (show (1 : Int) ≤ 2 by decide) 4000)))
  refine wide_mul (a := 4009) (b := 65) ?_ ?_ (by decide) (by decide) (by decide)
  · have h1 : p < 2 ^ 4009 := Int.lt_of_le_of_lt hp2 (by decide)
    have h2 : ((p.natAbs : Nat) : Int) < ((2 ^ 4009 : Nat) : Int) := by
      rw [Int.natCast_pow]
      have e : ((2 : Nat) : Int) = 2 := rfl
      rw [e]
      omega
    exact Int.ofNat_lt.mp h2
  · have h1 : e < 2 ^ 65 := by
      rw [he]
      exact Int.lt_of_le_of_lt b8 (by decide)
    have h2 : ((e.natAbs : Nat) : Int) < ((2 ^ 65 : Nat) : Int) := by
      rw [Int.natCast_pow]
      have e : ((2 : Nat) : Int) = 2 := rfl
      rw [e]
      omega
    exact Int.ofNat_lt.mp h2
theorem ok_figures_of (T : Tx w K mg) : Prom P w K mg base CX0 1 "figures_of" s_figures_of ["length", "base"] spFig := by
  refine Prom.of T.d_figures_of sc_figures_of (fun vs H Q E h => ?_) (fun _ _ _ _ _ _ us hl => match us, hl with | [_, _], _ => rfl) (fun f cdv A outer s H vs Q E hr h => ?_)
  · obtain ⟨n, b, rfl, _⟩ := h
    rfl
  · obtain ⟨n, b, rfl, hb, hb2, hn, k⟩ := h
    refine ⟨_, (pss_cons (ps_par3 (i := 2) (j := 3) (l := 4) (by rfl) sc_figures_of.nd rfl rfl rfl (by decide) (by decide) (by decide) rfl rfl rfl (pa_cons pe_int (pa_cons (pv 1) (pa_cons pe_int pa_nil))) (by rfl))
      (pss_cons (ps_for PassesOwn.never (by rfl) (pi_range1 (by rfl) T.b_range (pa_cons pe_int pa_nil)) (pg_name (i := 5) sc_figures_of.nd rfl (Or.inl rfl)) (pss_one (ps_set (i := 4) sc_figures_of.nd rfl (Or.inl rfl) (pe_op op_mul (pv 4) (pv 1)))))
      (pss_cons (ps_while PassesOwn.never (pt_cmp (pc_le (pe_op op_mulW (pv 3) (pv 4)) (pv 0))) (pss_one (ps_par (i := 2) (j := 3) (by rfl) sc_figures_of.nd rfl rfl (by decide) rfl rfl (pa_cons (pe_op op_add (pv 2) pe_int) (pa_cons (pe_op op_mulW (pv 3) (pv 4)) pa_nil)) (by rfl))))
      (pss_cons (ps_while PassesOwn.never (pt_cmp (pc_le (pv 3) (pv 0))) (pss_one (ps_par (i := 2) (j := 3) (by rfl) sc_figures_of.nd rfl rfl (by decide) rfl rfl (pa_cons (pe_op op_add (pv 2) pe_int) (pa_cons (pe_op op_mul (pv 3) (pv 1)) pa_nil)) (by rfl))))
      (pss_one (ps_ret (pv 2))))))), ?_⟩
    -- count, power, eight = 1, base, 1
    refine ⟨_, rfl, _, _, _, rfl, ?_⟩
    -- for turn in range(8)
    refine ⟨8, rfl, by decide, by decide, for_range (lo := 0) (n := 8) (fun i σ H' => H' = H ∧ ∃ v, σ = [some (.int n), some (.int b), some (.int 1), some (.int b), some (.int (b ^ i)), v]) ⟨rfl, none, by rw [Int.pow_zero]; rfl⟩ ?_ ?_⟩
    · rintro i σ H' hi ⟨rfl, v, rfl⟩
      refine ⟨_, rfl, _, rfl, _, _, rfl, rfl, .inr ⟨by omega, by omega⟩, ?_⟩
      exact ⟨rfl, some (.int (0 + (i : Int))), by rw [Int.pow_succ]; rfl⟩
    · rintro σ H' ⟨rfl, v, rfl⟩
      -- while power * eight <= length
      refine ⟨fun m σ H1 => H1 = H' ∧ ∃ (j : Nat), σ = [some (.int n), some (.int b), some (.int ((j : Int) + 1)), some (.int (b ^ (j + 1))), some (.int (b ^ 8)), v] ∧ (j = 0 ∨ b ^ j ≤ n) ∧ m = (n + 1 - b ^ (j + 1)).toNat,
        ⟨_, rfl, 0, by rw [pow_one b]; rfl, .inl rfl, rfl⟩, ?_⟩
      rintro m σ H1 ⟨rfl, j, rfl, hj, hm⟩
      have p1 := pow_pos (show 1 ≤ b by omega) (j + 1)
      refine ⟨_, rfl, _, rfl, _, _, rfl, rfl, fig_mul hb hb2 hn rfl hj rfl, ?_⟩
      refine ⟨_, rfl, _, _, rfl, rfl, _, rfl, ifd (fun c => ?_) (fun c => ?_)⟩
      · refine ⟨_, fun σ' H' h => h, ?_⟩
        have e9 : b ^ (j + 1) * b ^ 8 = b ^ (j + 8 + 1) := by rw [← Int.pow_add]
        have e8 : b ^ (j + 1) < b ^ (j + 8 + 1) := Int.lt_of_lt_of_le (pow_lt hb (j + 1)) (pow_mono (show 1 ≤ b by omega) (by omega))
        refine ⟨_, rfl, _, _, rfl, rfl, _, rfl, _, rfl, _, _, rfl, rfl, fig_mul hb hb2 hn rfl hj rfl, _, _, rfl, ?_⟩
        refine ⟨_, ?_, rfl, j + 8, ?_, .inr ?_, rfl⟩
        · rw [hm]
          rw [e9] at c
          omega
        · show [some (V.int n), some (V.int b), some (V.int ((j : Int) + 1 + 8)), some (V.int (b ^ (j + 1) * b ^ 8)), some (V.int (b ^ 8)), v] = _
          rw [e9]
          have e : (j : Int) + 1 + 8 = ((j + 8 : Nat) : Int) + 1 := by omega
          rw [e]
        · rw [e9] at c
          exact Int.le_trans (pow_mono (show 1 ≤ b by omega) (by omega)) c
      · -- while power <= length
        refine ⟨fun m σ H2 => H2 = H1 ∧ ∃ (j : Nat), σ = [some (.int n), some (.int b), some (.int ((j : Int) + 1)), some (.int (b ^ (j + 1))), some (.int (b ^ 8)), v] ∧ (j = 0 ∨ b ^ j ≤ n) ∧ m = (n + 1 - b ^ (j + 1)).toNat,
          ⟨_, rfl, j, rfl, hj, rfl⟩, ?_⟩
        clear c hm p1 hj
        rintro m σ H2 ⟨rfl, j, rfl, hj, hm⟩
        have p1 := pow_pos (show 1 ≤ b by omega) (j + 1)
        refine ⟨_, rfl, _, rfl, _, _, rfl, rfl, _, rfl, ifd (fun c => ?_) (fun c => ?_)⟩
        · refine ⟨_, fun σ' H' h => h, ?_⟩
          have e8 := pow_lt hb (j + 1)
          refine ⟨_, rfl, _, _, rfl, rfl, _, rfl, _, rfl, _, _, rfl, rfl, .inr ⟨by omega, by omega⟩, _, _, rfl, ?_⟩
          refine ⟨_, ?_, rfl, j + 1, ?_, .inr c, rfl⟩
          · rw [hm]
            omega
          · show [some (V.int n), some (V.int b), some (V.int ((j : Int) + 1 + 1)), some (V.int (b ^ (j + 1) * b)), some (V.int (b ^ 8)), v] = _
            rw [← Int.pow_succ]
            have e : (j : Int) + 1 + 1 = ((j + 1 : Nat) : Int) + 1 := by omega
            rw [e]
        · exact ⟨_, rfl, k _ ⟨j, rfl, by omega, hj⟩⟩
end
section
variable {P : Program} {w : World} {K : PySem.W.Frag} {mg : Str → Option Value} {base : Heap}
def spTotal : Sp := fun vs H Q _ => ∃ n b : Int, vs = [.int n, .int b] ∧ 2 ≤ b ∧ b ≤ 256 ∧ 0 ≤ n ∧ n < 2 ^ 3900 ∧ ∀ s, IsTot b n s → s ≤ n + 4000 → Q (.int s) H
theorem ok_total_of (T : Tx w K mg) : Prom P w K mg base CX0 2 "total_of" s_total_of ["length", "base"] spTotal := by
  refine Prom.of T.d_total_of sc_total_of (fun vs H Q E h => ?_) (fun _ _ _ _ _ _ us hl => match us, hl with | [_, _], _ => rfl) (fun f cdv A outer s H vs Q E hr h => ?_)
  · obtain ⟨n, b, rfl, _⟩ := h
    rfl
  · obtain ⟨n, b, rfl, b0, b1, n0, n1, k⟩ := h
    have big : ∀ x : Int, x ≤ n + 4000 → x < 2 ^ 4000 := fun x hx => by
      have : (2 : Int) ^ 3900 + 4000 ≤ 2 ^ 4000 := by decide
      omega
    refine ⟨_, (pss_cons (ps_set (i := 2) sc_total_of.nd rfl (Or.inl rfl) (pe_callP (ok_figures_of T) (hr.mono (by decide)) (by rfl) pass0 (pa_cons (pv 0) (pa_cons (pv 1) pa_nil))))
      (pss_cons (ps_while PassesOwn.never (pt_cmp (pc_neI (pe_callP (ok_figures_of T) (hr.mono (by decide)) (by rfl) pass0 (pa_cons (pe_op op_add (pv 0) (pv 2)) (pa_cons (pv 1) pa_nil))) (pv 2))) (pss_one (ps_aug (i := 2) sc_total_of.nd rfl (.inl rfl) pe_int ip_add)))
      (pss_one (ps_ret (pe_op op_add (pv 0) (pv 2)))))), ?_⟩
    refine ⟨_, rfl, _, rfl, n, b, rfl, b0, b1, big n (by omega), fun z hz => ?_⟩
    have z0 := isF_pos hz
    have z1 := isF_bound b0 3900 n1 hz
    refine ⟨fun m σ H1 => H1 = H ∧ ((m = 1 ∧ σ = [some (.int n), some (.int b), some (.int z)]) ∨ (m = 0 ∧ σ = [some (.int n), some (.int b), some (.int (z + 1))] ∧ IsF b (n + z) (z + 1))), ⟨1, rfl, .inl ⟨rfl, rfl⟩⟩, ?_⟩
    rintro m σ H1 ⟨rfl, ⟨rfl, rfl⟩ | ⟨rfl, rfl, h1⟩⟩
    · refine ⟨_, rfl, _, rfl, _, _, rfl, rfl, _, rfl, n + z, b, rfl, b0, b1, big _ (by omega), fun g hg => ?_⟩
      refine ⟨_, rfl, _, _, rfl, rfl, _, rfl, ifn (fun c => ?_) (fun c => ?_)⟩
      · have e : g = z + 1 := (fig_grow b0 n0 hz hg).resolve_left c
        subst e
        exact ⟨_, fun _ _ h => h, _, rfl, _, _, rfl, rfl, 0, by decide, rfl, .inr ⟨rfl, rfl, hg⟩⟩
      · subst c
        exact ⟨_, rfl, _, rfl, _, _, rfl, rfl, k _ (isTot_first b0 hz hg) (by omega)⟩
    · refine ⟨_, rfl, _, rfl, _, _, rfl, rfl, _, rfl, n + (z + 1), b, rfl, b0, b1, big _ (by omega), fun g hg => ?_⟩
      have h2 := fig_next b0 n0 hz h1
      have e0 : n + (z + 1) = n + z + 1 := by omega
      rw [e0] at hg
      have e : g = z + 1 := isF_eq b0 hg h2
      refine ⟨_, rfl, _, _, rfl, rfl, _, rfl, ifn (fun c => absurd e c) (fun c => ?_)⟩
      refine ⟨_, rfl, _, rfl, _, _, rfl, rfl, ?_⟩
      show Q (.int (n + (z + 1))) _
      rw [e0]
      exact k _ (isTot_second b0 n0 hz h1) (by omega)
end
theorem log2_small {i : Int} (h0 : 0 ≤ i) (h1 : i < 10 ^ 70) : i.natAbs.log2 < 1920 := by
  have h3 : i.natAbs < 2 ^ 300 := Nat.lt_of_lt_of_le (show i.natAbs < 10 ^ 70 by omega) (by decide)
  exact Nat.lt_of_lt_of_le (PySem.Flt.log2_lt_of (by decide) h3) (by decide)
/-! ### ints shown -/
theorem shownAll_ints : ∀ xs : List Int, PyData.shownAll (xs.map PyData.int) = xs.map fun i => (toString i : Str)
  | [] => rfl
  | x :: xs => by
    show (toString x : Str) :: PyData.shownAll (xs.map PyData.int) = _
    rw [shownAll_ints xs]
    rfl
theorem sum_short : ∀ (xs : List Int), (∀ x ∈ xs, x.natAbs < 10 ^ 70) → ((xs.map fun i => (toString i : Str)).map (·.length)).sum ≤ 71 * xs.length
  | [], _ => by simp
  | x :: xs, h => by
    have h1 := sum_short xs fun y hy => h y (List.mem_cons_of_mem _ hy)
    have h2 : (toString x : Str).length ≤ 71 := by
      have := int_text_length_le10 (k := 70) (by decide) (h x (List.mem_cons_self ..))
      have e : (Str.ofString (toString x)).length = (toString x : String).length := PySem.ofString_length _
      show (Str.ofString (toString x)).length ≤ 71
      omega
    simp only [List.map_cons, List.sum_cons, List.length_cons]
    omega
def Shows (d : PyData) : Prop := d.showable = true ∧ d.hasDict = false ∧ d.depth ≤ 40 ∧ d.shown.length ≤ sizeLine
theorem ints_showable : ∀ xs : List Int, (∀ x ∈ xs, x.natAbs < 10 ^ 70) → PyData.showableAll (xs.map PyData.int) = true ∧ PyData.hasDictAll (xs.map PyData.int) = false ∧ PyData.depthAll (xs.map PyData.int) ≤ 2
  | [], _ => ⟨rfl, rfl, by decide⟩
  | x :: xs, h => by
    obtain ⟨h1, h2, h3⟩ := ints_showable xs fun y hy => h y (List.mem_cons_of_mem _ hy)
    have hx : x.natAbs.log2 < 1920 := by
      have h4 : x.natAbs < 2 ^ 300 := Nat.lt_of_lt_of_le (h x (List.mem_cons_self ..)) (by decide)
      exact Nat.lt_of_lt_of_le (PySem.Flt.log2_lt_of (by decide) h4) (by decide)
    refine ⟨?_, ?_, ?_⟩
    · show (decide (x.natAbs.log2 < 1920) && PyData.showableAll (xs.map PyData.int)) = true
      rw [h1, decide_eq_true hx] <;> rfl
    · show (false || PyData.hasDictAll (xs.map PyData.int)) = false
      rw [h2] <;> rfl
    · show max (PyData.depth (.int x)) (PyData.depthAll (xs.map PyData.int)) ≤ 2
      have : PyData.depth (.int x) ≤ 1 := by first | exact Nat.le_refl _ | exact Nat.zero_le _ | decide
      omega
theorem shows_tuple {xs : List Int} (h : ∀ x ∈ xs, x.natAbs < 10 ^ 70) (hl : xs.length ≤ 10000) : Shows (.tuple (xs.map PyData.int)) := by
  obtain ⟨h1, h2, h3⟩ := ints_showable xs h
  refine ⟨h1, h2, ?_, ?_⟩
  · show PyData.depthAll (xs.map PyData.int) + 1 ≤ 40
    omega
  · show (tupleText (PyData.shownAll (xs.map PyData.int))).length ≤ sizeLine
    have h4 := tupleText_len_le (PyData.shownAll (xs.map PyData.int))
    rw [shownAll_ints] at h4 ⊢
    have h5 := sum_short xs h
    rw [List.length_map] at h4
    rw [sizeLine_eq]
    omega
theorem shows_list {xs : List Int} (h : ∀ x ∈ xs, x.natAbs < 10 ^ 70) (hl : xs.length ≤ 10000) : Shows (.list (xs.map PyData.int)) := by
  obtain ⟨h1, h2, h3⟩ := ints_showable xs h
  refine ⟨h1, h2, ?_, ?_⟩
  · show PyData.depthAll (xs.map PyData.int) + 1 ≤ 40
    omega
  · show (listText (PyData.shownAll (xs.map PyData.int))).length ≤ sizeLine
    have h4 := listText_len_le (PyData.shownAll (xs.map PyData.int))
    rw [shownAll_ints] at h4 ⊢
    have h5 := sum_short xs h
    rw [List.length_map] at h4
    rw [sizeLine_eq]
    omega
theorem dp_ints {K : PySem.W.Frag} {H : Hp} : ∀ xs : List Int, DpAll K H (xs.map V.int) (xs.map PyData.int)
  | [] => .nil
  | x :: xs => .cons (.int x) (dp_ints xs)
/-! ### wraps -/
/-- the first number that does not do -/
def faultL : List (Int × Int) → List Int → Nat → Option Nat
  | q :: qs, n :: ns, i => if q.1 ≤ n ∧ n ≤ q.2 then faultL qs ns (i + 1) else some i
  | _, _, _ => none
def faultV (a : Wr) (ns : List Int) : V := match faultL a.rng ns 0 with
  | some i => .int (i : Nat)
  | none => if a.kind = "coded" ∧ ns.getD 1 0 < ns.getD 0 0 then .int 1 else .non
theorem faultL_drop : ∀ (qs : List (Int × Int)) (ns : List Int) (j i : Nat), qs.length = ns.length → (∀ m q n, m < i → qs[m]? = some q → ns[m]? = some n → q.1 ≤ n ∧ n ≤ q.2) → i ≤ ns.length → faultL qs ns j = faultL (qs.drop i) (ns.drop i) (j + i)
  | _, _, j, 0, _, _, _ => rfl
  | [], [], j, i + 1, _, _, h => by simp at h
  | [], _ :: _, j, i + 1, h, _, _ => by simp at h
  | _ :: _, [], j, i + 1, h, _, _ => by simp at h
  | q :: qs, n :: ns, j, i + 1, hl, hg, hi => by
    have h0 := hg 0 q n (by omega) rfl rfl
    have ih := faultL_drop qs ns (j + 1) i (by simpa using hl) (fun m q' n' hm h1 h2 => hg (m + 1) q' n' (by omega) (by simpa using h1) (by simpa using h2)) (by simpa using hi)
    show (if q.1 ≤ n ∧ n ≤ q.2 then faultL qs ns (j + 1) else some j) = _
    rw [if_pos h0, ih]
    have e : j + 1 + i = j + (i + 1) := by omega
    rw [e]
    rfl
theorem drop_at {α : Type} : ∀ {xs : List α} {i : Nat} {x : α}, xs[i]? = some x → xs.drop i = x :: xs.drop (i + 1)
  | [], i, x, h => by simp at h
  | y :: ys, 0, x, h => by
    simp at h
    rw [h]
    rfl
  | y :: ys, i + 1, x, h => drop_at (xs := ys) (i := i) (by simpa using h)
def spFault (K : PySem.W.Frag) : Sp := fun vs H Q _ => ∃ (a : Wr) (ns : List Int) (p : Addr), vs = [.str a.kind, .ref p] ∧ (SqL K H p (ns.map V.int) ∨ SqT K H p (ns.map V.int)) ∧ ns.length = a.rng.length ∧ ∀ H', Same H H' → Q (faultV a ns) H'
section
variable {P : Program} {w : World} {K : PySem.W.Frag} {mg : Str → Option Value} {base : Heap}
theorem sq_same {H H' : Hp} {p : Addr} {xs : List V} (s : Same H H') (h : SqL K H p xs ∨ SqT K H p xs) : SqL K H' p xs ∨ SqT K H' p xs := by
  rcases h with h | h
  · exact .inl (s.seq h)
  · refine .inr ?_
    rcases h with (h | ⟨o, h⟩) | h
    · exact .inl (.inl (s _ _ h))
    · exact .inl (.inr ⟨o, s _ _ h⟩)
    · exact .inr h
theorem ok_fault_in (T : Tx w K mg) : Prom P w K mg base CX0 3 "fault_in" s_fault_in ["kind", "numbers"] (spFault K) := by
  refine Prom.of T.d_fault_in sc_fault_in (fun vs H Q E h => ?_) (fun _ _ _ _ _ _ us hl => match us, hl with | [_, _], _ => rfl) (fun f cdv A outer s H vs Q E hr h => ?_)
  · obtain ⟨a, ns, p, rfl, _⟩ := h
    rfl
  · obtain ⟨a, ns, p, rfl, hS, hl, k⟩ := h
    obtain ⟨es, en, kd⟩ := T.kd
    obtain ⟨b, xs, hb, hq, hp⟩ := T.rg a
    have hlx := hp.len
    have at_ : ∀ {H' : Hp} {i : Nat} {n : Int} {Q' : VK}, Same H H' → ns[i]? = some n → Q' (.int n) H' → rIxL K (.ref p) (.int (i : Nat)) H' Q' ∨ rIxT K (.ref p) (.int (i : Nat)) H' Q' := fun {H' i n Q'} hs hn hQ => by
      have en : (ns.map V.int)[i]? = some (V.int n) := by rw [List.getElem?_map, hn]; rfl
      rcases sq_same hs hS with z | z
      · exact .inl ⟨p, _, _, _, rfl, rfl, z, atI_nat en, hQ⟩
      · exact .inr ⟨p, _, _, _, rfl, rfl, z, atI_nat en, hQ⟩
    refine ⟨_, (pss_cons (ps_for PassesOwn.never (by rfl) (pi_enumT (by rfl) T.b_enumerate (pa_cons (pe_ix ix_kdict (pe_glob (v := .ref _) (by rfl) T.k_RANGES rfl) (pv 0) (fun _ _ => rfl)) pa_nil)) (pg_tup rfl (pgs_cons (pg_name (i := 2) sc_fault_in.nd rfl (Or.inl rfl)) (pgs_cons (pg_tup rfl (pgs_cons (pg_name (i := 3) sc_fault_in.nd rfl (Or.inl rfl)) (pgs_cons (pg_name (i := 4) sc_fault_in.nd rfl (Or.inl rfl)) pgs_nil))) pgs_nil))) (pss_one (ps_if (pt_not (pt_val (pe_callP (ok_is_between T) (hr.mono (by decide)) (by rfl) pass0 (pa_cons (pe_ix ix_any (pv 1) (pv 2) (fun _ _ => rfl)) (pa_cons (pv 3) (pa_cons (pv 4) pa_nil)))))) (pss_one (ps_ret (pv 2))) pss_nil)))
      (pss_one (ps_ret (pe_ifExp (PW.pt (pw_and (pt_cmpR op_eq (pv 0) pe_str (nomark _)) (pw_and1 (pt_cmp (pc_lt (pe_ix ix_any (pv 1) pe_int (fun _ _ => rfl)) (pe_ix ix_any (pv 1) pe_int (fun _ _ => rfl))))))) pe_int pe_non)))), ?_⟩
    refine ⟨_, rfl, _, _, .ref b, rfl, rfl, ⟨es, en, _, kd.at_, kd.lit, hb, rfl⟩, b, xs, rfl, hq _, ?_⟩
    refine for_it (walk_enumT (K := K) (a := b) (xs := xs)) (fun i σ H' => Same H H' ∧ (∀ m q n, m < i → a.rng[m]? = some q → ns[m]? = some n → q.1 ≤ n ∧ n ≤ q.2) ∧ ∃ v1 v2 v3, σ = [some (.str a.kind), some (.ref p), v1, v2, v3]) ⟨Same.refl H, fun m q n h => absurd h (Nat.not_lt_zero m), none, none, none, rfl⟩ (fun _ _ H' _ _ => hq H') ?_ ?_
    · rintro i x σ H1 H2 hi ⟨hs, hg, v1, v2, v3, rfl⟩ ⟨t, x1, x2, rfl, ht, rfl, e1, e2⟩
      cases e1
      obtain ⟨c, q, rfl, hq2, hc⟩ := hp.get e2
      have hin : i < ns.length := by omega
      obtain ⟨n, hn⟩ : ∃ n, ns[i]? = some n := ⟨_, List.getElem?_eq_getElem hin⟩
      have hs2 : Same H (upd H1 t (.tup [.int (i : Nat), .ref c])) := fun y o e => by rw [upd_ne (ne_of_none (hs _ _ e) ht)]; exact hs _ _ e
      refine ⟨t, _, rfl, SqT.of upd_same, rfl, _, _, rfl, _, _, rfl, ?_⟩
      refine ⟨c, _, rfl, hc _, rfl, _, _, rfl, _, _, rfl, rfl, rfl, ?_⟩
      refine ⟨_, rfl, _, rfl, at_ hs2 hn ⟨_, rfl, _, rfl, n, q.1, q.2, rfl, _, rfl, ifn (fun c => ?_) (fun c => ?_)⟩⟩
      · have e : faultV a ns = .int (i : Nat) := by
          unfold faultV
          rw [faultL_drop a.rng ns 0 i hl.symm hg (by omega)]
          have d1 : a.rng.drop i = q :: a.rng.drop (i + 1) := drop_at hq2
          have d2 : ns.drop i = n :: ns.drop (i + 1) := drop_at hn
          rw [d1, d2]
          show (match (if q.1 ≤ n ∧ n ≤ q.2 then _ else some (0 + i)) with
            | some i => V.int (i : Nat)
            | none => _) = _
          rw [if_neg c, Nat.zero_add]
        have k2 := k _ hs2
        rw [e] at k2
        exact ⟨_, rfl, k2⟩
      · refine ⟨hs2, fun m q' n' hm h1 h2 => ?_, _, _, _, rfl⟩
        by_cases z : m = i
        · subst z
          rw [hq2] at h1
          rw [hn] at h2
          cases h1
          cases h2
          exact c
        · exact hg m q' n' (by omega) h1 h2
    · rintro σ H' ⟨hs, hg, v1, v2, v3, rfl⟩
      have e0 : faultL a.rng ns 0 = none := by
        rw [faultL_drop a.rng ns 0 ns.length hl.symm (by rw [hlx, ← hl] at hg; exact hg) (Nat.le_refl _)]
        rw [List.drop_length]
        cases a.rng.drop ns.length <;> rfl
      have k2 := k _ hs
      unfold faultV at k2
      rw [e0] at k2
      refine ⟨_, rfl, rfl, _, rfl, ifd (fun c => ?_) (fun c => ?_)⟩
      · have ec : a.kind = "coded" := by
          have c : V.str a.kind = V.str "coded" := c
          injection c
        have l2 : a.rng.length = 2 := by
          cases a with
          | coded _ _ => rfl
          | pieces _ _ => rfl
          | cut _ _ => rfl
          | plus _ => exact absurd (show ("plus" : Str) = "coded" from ec) (by decide)
          | told _ => exact absurd (show ("told" : Str) = "coded" from ec) (by decide)
          | whole _ => exact absurd (show ("whole" : Str) = "coded" from ec) (by decide)
          | filled _ => exact absurd (show ("filled" : Str) = "coded" from ec) (by decide)
        rw [l2] at hl
        obtain ⟨n0, n1, rfl⟩ : ∃ n0 n1, ns = [n0, n1] := by
          match ns, hl with
          | [n0, n1], _ => exact ⟨n0, n1, rfl⟩
        refine ⟨_, rfl, at_ (i := 1) (n := n1) hs rfl ⟨_, rfl, at_ (i := 0) (n := n0) hs rfl ⟨_, _, rfl, rfl, _, rfl, ifd (fun c2 => ?_) (fun c2 => ?_)⟩⟩⟩
        · rw [if_pos ⟨ec, c2⟩] at k2
          exact k2
        · rw [if_neg (fun z => c2 z.2)] at k2
          exact k2
      · rw [if_neg (fun z => c (congrArg V.str z.1))] at k2
        exact k2
end
/-- the text of a wrap -/
def Wr.text (a : Wr) : Str := Txt.join " " (a.kind :: a.nums.map fun i => (toString i : Str))
def wrapFs (a : Wr) (p : Addr) : List (Str × V) := [("kind", .str a.kind), ("numbers", .ref p), ("words", .str a.text)]
/-- a wrap stands there -/
def WrapAt (K : PySem.W.Frag) (H : Hp) (q : Addr) (a : Wr) : Prop := ∃ dx p, H q = some (.ins (He.ga K "Wrap") dx (wrapFs a p)) ∧ H p = some (.tup (a.nums.map V.int))
theorem WrapAt.same {K : PySem.W.Frag} {H H' : Hp} {q : Addr} {a : Wr} (h : WrapAt K H q a) (s : Same H H') : WrapAt K H' q a := by
  obtain ⟨dx, p, h1, h2⟩ := h
  exact ⟨dx, p, s _ _ h1, s _ _ h2⟩
def spInit (K : PySem.W.Frag) : Sp := fun vs H Q _ => ∃ (a : Wr) (x p dx : Addr), vs = [.ref x, .str a.kind, .ref p] ∧ a.ok ∧ H x = some (.ins (He.ga K "Wrap") dx []) ∧ H p = some (.tup (a.nums.map V.int)) ∧
  ∀ H', Kp x H H' → H' x = some (.ins (He.ga K "Wrap") dx (wrapFs a p)) → Q .non H'
def spWrap (K : PySem.W.Frag) : Sp := fun vs H Q _ => ∃ a : Wr, vs = .str a.kind :: a.nums.map V.int ∧ a.ok ∧ ∀ q H', H q = none → Same H H' → WrapAt K H' q a → Q (.ref q) H'
theorem kind_len (a : Wr) : a.kind.length ≤ 6 := by
  cases a with
  | plus _ => exact (show ("plus" : Str).length ≤ 6 by decide)
  | told _ => exact (show ("told" : Str).length ≤ 6 by decide)
  | whole _ => exact (show ("whole" : Str).length ≤ 6 by decide)
  | pieces _ _ => exact (show ("pieces" : Str).length ≤ 6 by decide)
  | cut _ _ => exact (show ("cut" : Str).length ≤ 6 by decide)
  | coded _ _ => exact (show ("coded" : Str).length ≤ 6 by decide)
  | filled _ => exact (show ("filled" : Str).length ≤ 6 by decide)
theorem faultL_one {q : Int × Int} {n : Int} (h : q.1 ≤ n ∧ n ≤ q.2) : faultL [q] [n] 0 = none := by
  show (if q.1 ≤ n ∧ n ≤ q.2 then none else some 0) = none
  rw [if_pos h]
theorem faultL_two {q r : Int × Int} {n m : Int} (h : q.1 ≤ n ∧ n ≤ q.2) (h2 : r.1 ≤ m ∧ m ≤ r.2) : faultL [q, r] [n, m] 0 = none := by
  show (if q.1 ≤ n ∧ n ≤ q.2 then (if r.1 ≤ m ∧ m ≤ r.2 then none else some 1) else some 0) = none
  rw [if_pos h, if_pos h2]
theorem fault_ok {a : Wr} (h : a.ok) : faultV a a.nums = .non := by
  unfold faultV
  cases a with
  | plus c => rw [show faultL (Wr.plus c).rng (Wr.plus c).nums 0 = none from faultL_one h]; rfl
  | told c => rw [show faultL (Wr.told c).rng (Wr.told c).nums 0 = none from faultL_one h]; rfl
  | whole c => rw [show faultL (Wr.whole c).rng (Wr.whole c).nums 0 = none from faultL_one h]; rfl
  | filled c => rw [show faultL (Wr.filled c).rng (Wr.filled c).nums 0 = none from faultL_one h]; rfl
  | pieces m c => rw [show faultL (Wr.pieces m c).rng (Wr.pieces m c).nums 0 = none from faultL_two ⟨h.1, h.2.1⟩ h.2.2]; rfl
  | cut m c => rw [show faultL (Wr.cut m c).rng (Wr.cut m c).nums 0 = none from faultL_two ⟨h.1, h.2.1⟩ h.2.2]; rfl
  | coded m c =>
    simp only [Wr.ok] at h
    rw [show faultL (Wr.coded m c).rng (Wr.coded m c).nums 0 = none from faultL_two ⟨h.1, h.2.1⟩ ⟨show (1 : Int) ≤ c by omega, h.2.2.2⟩]
    exact if_neg (fun z => absurd (show c < m from z.2) (by omega))
section
variable {P : Program} {w : World} {K : PySem.W.Frag} {mg : Str → Option Value} {base : Heap}
theorem ok_Wrap (T : Tx w K mg) : PromC P w K mg base CX0 4 "Wrap" (spWrap K) := by
  refine PromC.star (sp0 := spInit K) T.mk_Wrap T.k_Wrap T.dm_Wrap___init__ sc_Wrap___init__ (fun _ _ _ _ _ _ _ _ => rfl) (fun _ _ _ _ _ _ _ _ _ _ => rfl) (fun f cdv A outer s H vs Q E hr h => ?_) (fun vs H Q E h => ?_)
  · obtain ⟨a, x, p, dx, rfl, ha, hx, hp, k⟩ := h
    obtain ⟨es, en, kd⟩ := T.kd
    obtain ⟨b, xs, hb, hq, hps⟩ := T.rg a
    refine ⟨_, (pss_cons (ps_if (PW.pt (pw_or (pt_not (pt_val (pe_callB call_isi (by rfl) T.b_isinstance (by decide +kernel) (pa_cons (pv 1) (pa_cons (pe_bltn (v := .ty "str") (by rfl) T.b_str (by decide +kernel) rfl) pa_nil))))) (pw_or1 (pt_cmpR (op_notIn_kd kd) (pv 1) (pe_glob (v := .ref _) (by rfl) T.k_RANGES rfl) (by rfl))))) (pss_one ps_never) pss_nil)
      (pss_cons (ps_if (pt_cmp (pc_neI (pe_callB call_len_seq (by rfl) T.b_len (by decide +kernel) (pa_cons (pv 2) pa_nil)) (pe_callB call_len_seq (by rfl) T.b_len (by decide +kernel) (pa_cons (pe_ix ix_kdict (pe_glob (v := .ref _) (by rfl) T.k_RANGES rfl) (pv 1) (fun _ _ => rfl)) pa_nil)))) (pss_one ps_never) pss_nil)
      (pss_cons (ps_set (i := 3) sc_Wrap___init__.nd rfl (Or.inl rfl) (pe_callP (ok_fault_in T) (hr.mono (by decide)) (by rfl) pass0 (pa_cons (pv 1) (pa_cons (pv 2) pa_nil))))
      (pss_cons (ps_if (pt_cmpR op_notN (pv 3) pe_non (nomark _)) (pss_one ps_never) pss_nil)
      (pss_cons (ps_fld (pv 0) (pv 1) rfl)
      (pss_cons (ps_fld (pv 0) (pv 2) rfl)
      (pss_one (ps_fld (pv 0) (pe_join pe_str (pe_lst (pa_cons (pv 1) (StX.pa_star (pe_lc (own := [("number", 4)]) (g := (gName 4)) (tt := tYes) (by rfl) sc_Wrap___init__.nd (pi_tup (pv 2)) (blkOk_by (own := [("number", 4)]) (N := ["self", "kind", "numbers", "fault", "number"]) (sc := defScope s_Wrap___init__) (by decide +kernel)) (fun _ _ _ _ _ => (pg_name (i := 4) sc_Wrap___init__.nd rfl (Or.inl rfl))) (fun _ _ _ _ _ => pts_nil) (fun _ _ _ _ _ => (pe_joined1 (pe_fmt (pv 4))))) pa_nil)))) rfl)))))))), ?_⟩
    refine ⟨_, rfl, _, _, _, _, true, rfl, .ty _, .base (.str _), kit_ty (by decide +kernel), true, rfl, iteF ?_⟩
    refine ⟨_, rfl, _, _, rfl, rfl, hb, _, rfl, iteF ?_⟩
    refine ⟨_, rfl, p, _, rfl, .inr (SqT.of hp), _, rfl, _, _, .ref b, rfl, rfl, ⟨es, en, _, kd.at_, kd.lit, hb, rfl⟩, b, xs, rfl, .inr (hq _), _, _, rfl, rfl, _, rfl, ifn (fun c => ?_) (fun _ => ?_)⟩
    · refine absurd ?_ c
      rw [List.length_map, hps.len, nums_len]
      first | done | rfl
    refine ⟨_, rfl, _, rfl, a, a.nums, p, rfl, .inr (SqT.of hp), nums_len, fun H1 s1 => ?_⟩
    rw [fault_ok ha]
    refine ⟨_, rfl, rfl, _, rfl, iteF ?_⟩
    refine ⟨_, rfl, _, rfl, x, _, dx, _, rfl, s1 _ _ hx, T.cl_Wrap, T.na_Wrap_kind, by decide, ?_⟩
    refine ⟨_, rfl, _, rfl, x, _, dx, _, rfl, upd_same, T.cl_Wrap, T.na_Wrap_numbers, (show (1 : Nat) < 1000 by decide), ?_⟩
    obtain ⟨H3, e3, hx3, kp3⟩ : ∃ H3, upd (upd H1 x (.ins (He.ga K "Wrap") dx (putF "kind" (.str a.kind) []))) x (.ins (He.ga K "Wrap") dx (putF "numbers" (.ref p) (putF "kind" (.str a.kind) []))) = H3 ∧ H3 x = some (.ins (He.ga K "Wrap") dx [("kind", .str a.kind), ("numbers", .ref p)]) ∧ Kp x H H3 :=
      ⟨_, rfl, upd_same, Kp.set (Kp.set fun b o n e => s1 _ _ e)⟩
    rw [e3]
    have npx : p ≠ x := fun z => by
      rw [z, hx] at hp
      cases hp
    have hp3 : H3 p = some (.tup (a.nums.map V.int)) := kp3 _ _ npx hp
    refine ⟨⟨_, rfl⟩, _, rfl, _, rfl, p, rfl, ⟨_, SqT.of hp3⟩, fun D hD => ?_⟩
    refine lc_tup (K := K) (a := p) (xs := a.nums.map V.int) (Pv := fun i H' => Same H3 H' ∧ H' D = some (.lst ((a.nums.take i).map fun z => V.str (toString z)))) ⟨fun z o e => by rw [upd_ne (ne_of_none e hD)]; exact e, upd_same⟩ (fun i H' _ h => SqT.of (h.1 _ _ hp3)) ?_ ?_
    · rintro i y H' hi ⟨hs, hl⟩
      obtain ⟨n, hn, rfl⟩ : ∃ n, a.nums[i]? = some n ∧ y = V.int n := by
        rw [List.getElem?_map] at hi
        cases e : a.nums[i]? with
        | none =>
          rw [e] at hi
          cases hi
        | some n =>
          rw [e] at hi
          exact ⟨n, rfl, (Option.some.inj hi).symm⟩
      have hb := nums_small ha n (List.mem_of_getElem? hn)
      have hlen : a.nums.length ≤ 2 := by cases a <;> simp [Wr.nums]
      have hil : i < a.nums.length := by
        rcases List.getElem?_eq_some_iff.mp hn with ⟨z, _⟩
        exact z
      refine ⟨rfl, _, rfl, .inr ⟨n, rfl, log2_small hb.1 (by omega), _, hl, ?_, fun z o e => ?_, ?_⟩⟩
      · rw [List.length_map, List.length_take, sizeLine_eq]
        omega
      · rw [upd_ne (ne_of_none e hD)]
        exact hs _ _ e
      · rw [upd_same, List.take_succ, hn, List.map_append]
        rfl
    · rintro H' ⟨hs, hl⟩
      rw [List.length_map, List.take_length] at hl
      refine ⟨D, _, rfl, .inr (SqL.of hl), ?_, fun l hl2 => ?_⟩
      · have hlen : a.nums.length ≤ 2 := by cases a <;> simp [Wr.nums]
        simp
        rw [sizeLine_eq]
        omega
      have el : V.str a.kind :: (a.nums.map (fun z => V.str (toString z)) ++ []) = (a.kind :: a.nums.map fun z => (toString z : Str)).map V.str := by simp
      refine ⟨_, l, a.kind :: a.nums.map (fun z => (toString z : Str)), rfl, rfl, .inl (SqL.of (by rw [← el]; exact upd_same)), ?_, ?_⟩
      · have h1 := sum_short a.nums (fun z hz => by have := nums_small ha z hz; omega)
        have hlen : a.nums.length ≤ 2 := by cases a <;> simp [Wr.nums]
        have hk : a.kind.length ≤ 6 := kind_len a
        simp only [List.map_cons, List.sum_cons, List.length_cons, List.length_map]
        have h2 : (" " : Str).length = 1 := by decide
        rw [h2]
        omega
      · have hx5 : (upd H' l (.lst (V.str a.kind :: (a.nums.map (fun z => V.str (toString z)) ++ [])))) x = some (.ins (He.ga K "Wrap") dx [("kind", .str a.kind), ("numbers", .ref p)]) := by rw [upd_ne (ne_of_none (hs _ _ hx3) hl2)]; exact hs _ _ hx3
        refine ⟨_, rfl, x, _, dx, _, rfl, hx5, T.cl_Wrap, T.na_Wrap_words, (show (2 : Nat) < 1000 by decide), ?_⟩
        refine k _ (fun z o n e => ?_) upd_same
        have ez := hs _ _ (kp3 z o n e)
        rw [upd_ne n, upd_ne (ne_of_none ez hl2)]
        exact ez
  · obtain ⟨a, rfl, ha, k⟩ := h
    refine ⟨_, _, rfl, ?_, fun x dx p hx hdx nd np npd hp => ?_⟩
    · rw [List.length_map, sizeLine_eq]
      have hlen : a.nums.length ≤ 2 := by cases a <;> simp [Wr.nums]
      omega
    refine ⟨a, x, p, dx, rfl, ha, by rw [upd_ne (Ne.symm np)]; exact upd_same, upd_same, fun H' kp hx' => ⟨rfl, ?_⟩⟩
    refine k x H' hx (fun z o e => ?_) ⟨dx, p, hx', kp _ _ np upd_same⟩
    have n1 : z ≠ x := ne_of_none e hx
    refine kp _ _ n1 ?_
    rw [upd_ne (ne_of_none e hp), upd_ne n1, upd_ne (ne_of_none e hdx)]
    exact e
end
/-! ### sizes by wraps -/
def spBegun : Sp := fun vs H Q _ => ∃ n m : Int, vs = [.int n, .int m] ∧ 1 ≤ m ∧ m ≤ 1000 ∧ Q (.int (beg n m)) H
def spPieces : Sp := fun vs H Q _ => ∃ n m c b : Int, vs = [.int n, .int m, .int c, .int b] ∧ 0 ≤ n ∧ 1 ≤ m ∧ m ≤ 60 ∧ 0 ≤ c ∧ c ≤ 60 ∧ 2 ≤ b ∧ b ≤ 256 ∧ Q (.int ((Wr.pieces m c).gr b n)) H
def spGrown (K : PySem.W.Frag) : Sp := fun vs H Q _ => ∃ (a : Wr) (q : Addr) (n b : Int), vs = [.ref q, .int n, .int b] ∧ WrapAt K H q a ∧ a.ok ∧ 2 ≤ b ∧ b ≤ 256 ∧ 0 ≤ n ∧ n < 2 ^ 3000 ∧ Q (.int (a.gr b n)) H
def spSize (K : PySem.W.Frag) : Sp := fun vs H Q _ => ∃ (a : Wr) (q : Addr) (n b : Int), vs = [.ref q, .int n, .int b] ∧ WrapAt K H q a ∧ a.ok ∧ 2 ≤ b ∧ b ≤ 256 ∧ 0 ≤ n ∧ n ≤ 10 ^ 60 - 1 ∧ Q (.int (a.gr b n)) H
theorem ifs_neg {x y : Str} {A B : Prop} (h : x ≠ y) (hB : B) : if decide (V.str x = V.str y) = true then A else B := by
  rw [decide_eq_false (fun z => h (by injection z)), if_neg Bool.false_ne_true]
  exact hB
theorem nums_first {a : Wr} : ∃ m, (a.nums.map V.int)[0]? = some (.int m) ∧ ∃ l, atI (a.nums.map V.int) (-1) = some (.int l) := by
  cases a <;> exact ⟨_, rfl, _, rfl⟩
section
variable {P : Program} {w : World} {K : PySem.W.Frag} {mg : Str → Option Value} {base : Heap}
theorem ok_begun (T : Tx w K mg) : Prom P w K mg base CX0 1 "begun" s_begun ["length", "whole"] spBegun := by
  refine Prom.of T.d_begun sc_begun (fun vs H Q E h => ?_) (fun _ _ _ _ _ _ us hl => match us, hl with | [_, _], _ => rfl) (fun f cdv A outer s H vs Q E hr h => ?_)
  · obtain ⟨n, m, rfl, _⟩ := h
    rfl
  · obtain ⟨n, m, rfl, h0, h1, k⟩ := h
    refine ⟨_, (pss_one (ps_ret (pe_op op_fdiv (pe_op op_sub (pe_op op_add (pv 0) (pv 1)) pe_int) (pv 1)))), ?_⟩
    exact ⟨_, rfl, _, rfl, _, _, rfl, rfl, _, _, rfl, rfl, _, rfl, _, _, rfl, rfl, ⟨by omega, by omega⟩, k⟩
theorem ok_in_pieces (T : Tx w K mg) : Prom P w K mg base CX0 2 "in_pieces" s_in_pieces ["length", "most", "constant", "base"] spPieces := by
  refine Prom.of T.d_in_pieces sc_in_pieces (fun vs H Q E h => ?_) (fun _ _ _ _ _ _ us hl => match us, hl with | [_, _, _, _], _ => rfl) (fun f cdv A outer s H vs Q E hr h => ?_)
  · obtain ⟨n, m, c, b, rfl, _⟩ := h
    rfl
  · obtain ⟨n, m, c, b, rfl, n0, m0, m1, c0, c1, b0, b1, k⟩ := h
    have f1 := fig_small (b := b) (m := m) b0 m1
    have f2 := figF_pos (b := b) (n := m) b0
    have r0 := Int.emod_nonneg n (show m ≠ 0 by omega)
    have r1 := Int.emod_lt_of_pos n (show 0 < m by omega)
    have big : ∀ x : Int, x ≤ 60 → x < 2 ^ 4000 := fun x hx => Int.lt_of_le_of_lt hx (by decide)
    refine ⟨_, (pss_cons (ps_set (i := 4) sc_in_pieces.nd rfl (Or.inl rfl) (pe_op op_mul (pe_op op_fdiv (pv 0) (pv 1)) (pe_op op_add (pe_op op_add (pv 1) (pv 2)) (pe_callP (ok_figures_of T) (hr.mono (by decide)) (by rfl) pass0 (pa_cons (pv 1) (pa_cons (pv 3) pa_nil))))))
      (pss_cons (ps_set (i := 5) sc_in_pieces.nd rfl (Or.inl rfl) (pe_op op_mod (pe_callTy call_int1 (by rfl) T.b_int (by decide +kernel) (pa_cons (pv 0) pa_nil)) (pv 1)))
      (pss_cons (ps_if (pt_cmp (pc_gt (pv 5) pe_int)) (pss_one (ps_set (i := 4) sc_in_pieces.nd rfl (Or.inl rfl) (pe_op op_add (pe_op op_add (pe_op op_add (pv 4) (pv 5)) (pv 2)) (pe_callP (ok_figures_of T) (hr.mono (by decide)) (by rfl) pass0 (pa_cons (pv 5) (pa_cons (pv 3) pa_nil)))))) pss_nil)
      (pss_one (ps_ret (pe_op op_add (pe_op op_add (pv 4) (pv 2)) pe_int)))))), ?_⟩
    refine ⟨_, rfl, _, rfl, _, _, rfl, rfl, ⟨by omega, by omega⟩, _, rfl, _, rfl, _, _, rfl, rfl, _, rfl, _, rfl, m, b, rfl, b0, b1, big m m1, fun g hg => ?_⟩
    have eg := figF_eq b0 hg
    subst eg
    refine ⟨_, _, rfl, rfl, _, _, rfl, rfl, .inr ⟨by omega, by omega⟩, ?_⟩
    refine ⟨_, rfl, .inl ⟨_, rfl, _, rfl, _, _, rfl, rfl, (show 0 < m by omega), ?_⟩⟩
    simp only [Wr.gr] at k
    refine ⟨_, rfl, _, _, rfl, rfl, _, rfl, ifd (fun h1 => ?_) (fun h1 => ?_)⟩
    · have h1 : 0 < n % m := h1
      rw [if_pos h1] at k
      refine ⟨_, rfl, _, rfl, _, _, rfl, rfl, _, rfl, _, _, rfl, rfl, _, rfl, _, rfl, n % m, b, rfl, b0, b1, big _ (by omega), fun g hg => ?_⟩
      have eg := figF_eq b0 hg
      subst eg
      refine ⟨_, _, rfl, rfl, ?_⟩
      refine ⟨_, rfl, _, rfl, _, _, rfl, rfl, _, _, rfl, rfl, ?_⟩
      have e : n / m * (m + c + figF b m) + n % m + c + figF b (n % m) + c + 1 = n / m * (m + c + figF b m) + (n % m + c + figF b (n % m)) + c + 1 := by omega
      rw [← e] at k
      exact k
    · have h1 : ¬ 0 < n % m := h1
      rw [if_neg h1] at k
      refine ⟨_, rfl, _, rfl, _, _, rfl, rfl, _, _, rfl, rfl, ?_⟩
      have e : n / m * (m + c + figF b m) + 0 + c + 1 = n / m * (m + c + figF b m) + c + 1 := by omega
      rw [e] at k
      exact k
theorem ok_Wrap_grown (T : Tx w K mg) : PromM P w K mg base CX0 3 "Wrap" "grown" ["self", "length", "base"] (spGrown K) := by
  refine PromM.of T.cl_Wrap T.me_Wrap_grown T.dm_Wrap_grown sc_Wrap_grown (fun vs H Q E h => ?_) (fun _ _ _ _ _ _ us hl => match us, hl with | [_, _, _], _ => rfl) (fun f cdv A outer s H vs Q E hr h => ?_)
  · obtain ⟨a, q, n, b, rfl, _⟩ := h
    rfl
  · obtain ⟨a, q, n, b, rfl, ⟨dx, p, hq, hp⟩, ha, b0, b1, n0, n1, k⟩ := h
    obtain ⟨x1, hm, x2, hl⟩ := nums_first (a := a)
    refine ⟨_, (pss_cons (ps_par (i := 3) (j := 4) (by rfl) sc_Wrap_grown.nd rfl rfl (by decide) rfl rfl (pa_cons (pe_ix ix_tup (pe_fld (pv 0) rfl) pe_int (fun _ _ => rfl)) (pa_cons (pe_ix ix_tup (pe_fld (pv 0) rfl) (pe_un un_neg pe_int) (fun _ _ => rfl)) pa_nil)) (by rfl))
      (pss_cons (ps_if (pt_cmpR op_eq (pe_fld (pv 0) rfl) pe_str (nomark _)) (pss_one (ps_ret (pe_op op_add (pv 1) (pv 3)))) pss_nil)
      (pss_cons (ps_if (pt_cmpR op_eq (pe_fld (pv 0) rfl) pe_str (nomark _)) (pss_one (ps_ret (pe_op op_add (pe_op op_add (pv 1) (pv 3)) (pe_callP (ok_figures_of T) (hr.mono (by decide)) (by rfl) pass0 (pa_cons (pv 1) (pa_cons (pv 2) pa_nil)))))) pss_nil)
      (pss_cons (ps_if (pt_cmpR op_eq (pe_fld (pv 0) rfl) pe_str (nomark _)) (pss_one (ps_ret (pe_callP (ok_total_of T) (hr.mono (by decide)) (by rfl) pass0 (pa_cons (pe_op op_add (pv 1) (pv 3)) (pa_cons (pv 2) pa_nil))))) pss_nil)
      (pss_cons (ps_if (pt_cmpR op_eq (pe_fld (pv 0) rfl) pe_str (nomark _)) (pss_one (ps_ret (pe_op op_mul (pe_callP (ok_begun T) (hr.mono (by decide)) (by rfl) pass0 (pa_cons (pv 1) (pa_cons (pv 3) pa_nil))) (pv 4)))) pss_nil)
      (pss_cons (ps_if (pt_cmpR op_eq (pe_fld (pv 0) rfl) pe_str (nomark _)) (pss_one (ps_ret (pe_op op_mul (pe_callP (ok_begun T) (hr.mono (by decide)) (by rfl) pass0 (pa_cons (pv 1) (pa_cons (pv 3) pa_nil))) (pv 3)))) pss_nil)
      (pss_cons (ps_if (pt_cmpR op_eq (pe_fld (pv 0) rfl) pe_str (nomark _)) (pss_one (ps_ret (pe_op op_add (pv 1) (pe_op op_mul (pe_callP (ok_begun T) (hr.mono (by decide)) (by rfl) pass0 (pa_cons (pv 1) (pa_cons (pv 3) pa_nil))) (pv 4))))) pss_nil)
      (pss_one (ps_ret (pe_callP (ok_in_pieces T) (hr.mono (by decide)) (by rfl) pass0 (pa_cons (pv 1) (pa_cons (pv 3) (pa_cons (pv 4) (pa_cons (pv 2) pa_nil)))))))))))))), ?_⟩
    refine ⟨_, rfl, q, _, dx, _, _, rfl, hq, T.cl_Wrap, T.na_Wrap_numbers, rfl, p, _, _, _, rfl, rfl, SqT.of hp, atI_nat (j := 0) hm, ?_⟩
    have big : ∀ x : Int, x ≤ n → x < 2 ^ 4000 := fun x hx => Int.lt_of_lt_of_le (show x < 2 ^ 3000 by omega) (by decide)
    refine ⟨_, rfl, q, _, dx, _, _, rfl, hq, T.cl_Wrap, T.na_Wrap_numbers, rfl, _, rfl, p, _, _, _, rfl, rfl, SqT.of hp, hl, _, _, rfl, ?_⟩
    cases a with
    | plus c =>
      have e1 : c = x1 := by injection hm with z; injection z
      have e2 : c = x2 := by injection hl with z; injection z
      subst e1 e2
      simp only [Wr.ok] at ha
      refine ⟨_, rfl, q, _, dx, _, _, rfl, hq, T.cl_Wrap, T.na_Wrap_kind, rfl, rfl, _, rfl, ifd_pos rfl ?_⟩
      exact ⟨_, rfl, _, rfl, _, _, rfl, rfl, k⟩
    | told c =>
      have e1 : c = x1 := by injection hm with z; injection z
      have e2 : c = x2 := by injection hl with z; injection z
      subst e1 e2
      simp only [Wr.ok] at ha
      refine ⟨_, rfl, q, _, dx, _, _, rfl, hq, T.cl_Wrap, T.na_Wrap_kind, rfl, rfl, _, rfl, ifs_neg (show ("told" : Str) ≠ "plus" by decide) ?_⟩
      refine ⟨_, rfl, q, _, dx, _, _, rfl, hq, T.cl_Wrap, T.na_Wrap_kind, rfl, rfl, _, rfl, ifd_pos rfl ?_⟩
      refine ⟨_, rfl, _, rfl, _, _, rfl, rfl, _, rfl, _, rfl, n, b, rfl, b0, b1, big n (by omega), fun g hg => ?_⟩
      have eg := figF_eq b0 hg
      subst eg
      exact ⟨_, _, rfl, rfl, k⟩
    | whole c =>
      have e1 : c = x1 := by injection hm with z; injection z
      have e2 : c = x2 := by injection hl with z; injection z
      subst e1 e2
      simp only [Wr.ok] at ha
      refine ⟨_, rfl, q, _, dx, _, _, rfl, hq, T.cl_Wrap, T.na_Wrap_kind, rfl, rfl, _, rfl, ifs_neg (show ("whole" : Str) ≠ "plus" by decide) ?_⟩
      refine ⟨_, rfl, q, _, dx, _, _, rfl, hq, T.cl_Wrap, T.na_Wrap_kind, rfl, rfl, _, rfl, ifs_neg (show ("whole" : Str) ≠ "told" by decide) ?_⟩
      refine ⟨_, rfl, q, _, dx, _, _, rfl, hq, T.cl_Wrap, T.na_Wrap_kind, rfl, rfl, _, rfl, ifd_pos rfl ?_⟩
      refine ⟨_, rfl, _, rfl, _, _, rfl, rfl, _, rfl, n + c, b, rfl, b0, b1, by omega, Int.lt_of_lt_of_le (show n + c < 2 ^ 3000 + 1001 by omega) (by decide), fun s hs _ => ?_⟩
      have eg := totF_eq b0 (show 0 ≤ n + c by omega) hs
      subst eg
      exact k
    | pieces m c =>
      have e1 : m = x1 := by injection hm with z; injection z
      have e2 : c = x2 := by injection hl with z; injection z
      subst e1 e2
      simp only [Wr.ok] at ha
      refine ⟨_, rfl, q, _, dx, _, _, rfl, hq, T.cl_Wrap, T.na_Wrap_kind, rfl, rfl, _, rfl, ifs_neg (show ("pieces" : Str) ≠ "plus" by decide) ?_⟩
      refine ⟨_, rfl, q, _, dx, _, _, rfl, hq, T.cl_Wrap, T.na_Wrap_kind, rfl, rfl, _, rfl, ifs_neg (show ("pieces" : Str) ≠ "told" by decide) ?_⟩
      refine ⟨_, rfl, q, _, dx, _, _, rfl, hq, T.cl_Wrap, T.na_Wrap_kind, rfl, rfl, _, rfl, ifs_neg (show ("pieces" : Str) ≠ "whole" by decide) ?_⟩
      refine ⟨_, rfl, q, _, dx, _, _, rfl, hq, T.cl_Wrap, T.na_Wrap_kind, rfl, rfl, _, rfl, ifs_neg (show ("pieces" : Str) ≠ "coded" by decide) ?_⟩
      refine ⟨_, rfl, q, _, dx, _, _, rfl, hq, T.cl_Wrap, T.na_Wrap_kind, rfl, rfl, _, rfl, ifs_neg (show ("pieces" : Str) ≠ "filled" by decide) ?_⟩
      refine ⟨_, rfl, q, _, dx, _, _, rfl, hq, T.cl_Wrap, T.na_Wrap_kind, rfl, rfl, _, rfl, ifs_neg (show ("pieces" : Str) ≠ "cut" by decide) ?_⟩
      exact ⟨_, rfl, _, rfl, _, rfl, _, rfl, n, m, c, b, rfl, n0, by omega, by omega, by omega, by omega, b0, b1, k⟩
    | cut m c =>
      have e1 : m = x1 := by injection hm with z; injection z
      have e2 : c = x2 := by injection hl with z; injection z
      subst e1 e2
      simp only [Wr.ok] at ha
      refine ⟨_, rfl, q, _, dx, _, _, rfl, hq, T.cl_Wrap, T.na_Wrap_kind, rfl, rfl, _, rfl, ifs_neg (show ("cut" : Str) ≠ "plus" by decide) ?_⟩
      refine ⟨_, rfl, q, _, dx, _, _, rfl, hq, T.cl_Wrap, T.na_Wrap_kind, rfl, rfl, _, rfl, ifs_neg (show ("cut" : Str) ≠ "told" by decide) ?_⟩
      refine ⟨_, rfl, q, _, dx, _, _, rfl, hq, T.cl_Wrap, T.na_Wrap_kind, rfl, rfl, _, rfl, ifs_neg (show ("cut" : Str) ≠ "whole" by decide) ?_⟩
      refine ⟨_, rfl, q, _, dx, _, _, rfl, hq, T.cl_Wrap, T.na_Wrap_kind, rfl, rfl, _, rfl, ifs_neg (show ("cut" : Str) ≠ "coded" by decide) ?_⟩
      refine ⟨_, rfl, q, _, dx, _, _, rfl, hq, T.cl_Wrap, T.na_Wrap_kind, rfl, rfl, _, rfl, ifs_neg (show ("cut" : Str) ≠ "filled" by decide) ?_⟩
      refine ⟨_, rfl, q, _, dx, _, _, rfl, hq, T.cl_Wrap, T.na_Wrap_kind, rfl, rfl, _, rfl, ifd_pos rfl ?_⟩
      exact ⟨_, rfl, _, rfl, _, rfl, n, m, rfl, by omega, by omega, _, rfl, _, _, rfl, rfl, .inr ⟨by omega, by omega⟩, _, _, rfl, rfl, k⟩
    | coded m c =>
      have e1 : m = x1 := by injection hm with z; injection z
      have e2 : c = x2 := by injection hl with z; injection z
      subst e1 e2
      simp only [Wr.ok] at ha
      refine ⟨_, rfl, q, _, dx, _, _, rfl, hq, T.cl_Wrap, T.na_Wrap_kind, rfl, rfl, _, rfl, ifs_neg (show ("coded" : Str) ≠ "plus" by decide) ?_⟩
      refine ⟨_, rfl, q, _, dx, _, _, rfl, hq, T.cl_Wrap, T.na_Wrap_kind, rfl, rfl, _, rfl, ifs_neg (show ("coded" : Str) ≠ "told" by decide) ?_⟩
      refine ⟨_, rfl, q, _, dx, _, _, rfl, hq, T.cl_Wrap, T.na_Wrap_kind, rfl, rfl, _, rfl, ifs_neg (show ("coded" : Str) ≠ "whole" by decide) ?_⟩
      refine ⟨_, rfl, q, _, dx, _, _, rfl, hq, T.cl_Wrap, T.na_Wrap_kind, rfl, rfl, _, rfl, ifd_pos rfl ?_⟩
      exact ⟨_, rfl, _, rfl, n, m, rfl, by omega, by omega, _, rfl, _, _, rfl, rfl, .inr ⟨by omega, by omega⟩, k⟩
    | filled m =>
      have e1 : m = x1 := by injection hm with z; injection z
      have e2 : m = x2 := by injection hl with z; injection z
      subst e1 e2
      simp only [Wr.ok] at ha
      refine ⟨_, rfl, q, _, dx, _, _, rfl, hq, T.cl_Wrap, T.na_Wrap_kind, rfl, rfl, _, rfl, ifs_neg (show ("filled" : Str) ≠ "plus" by decide) ?_⟩
      refine ⟨_, rfl, q, _, dx, _, _, rfl, hq, T.cl_Wrap, T.na_Wrap_kind, rfl, rfl, _, rfl, ifs_neg (show ("filled" : Str) ≠ "told" by decide) ?_⟩
      refine ⟨_, rfl, q, _, dx, _, _, rfl, hq, T.cl_Wrap, T.na_Wrap_kind, rfl, rfl, _, rfl, ifs_neg (show ("filled" : Str) ≠ "whole" by decide) ?_⟩
      refine ⟨_, rfl, q, _, dx, _, _, rfl, hq, T.cl_Wrap, T.na_Wrap_kind, rfl, rfl, _, rfl, ifs_neg (show ("filled" : Str) ≠ "coded" by decide) ?_⟩
      refine ⟨_, rfl, q, _, dx, _, _, rfl, hq, T.cl_Wrap, T.na_Wrap_kind, rfl, rfl, _, rfl, ifd_pos rfl ?_⟩
      exact ⟨_, rfl, _, rfl, n, m, rfl, by omega, by omega, _, rfl, _, _, rfl, rfl, .inr ⟨by omega, by omega⟩, k⟩
end
/-! ### stacks -/
def stepF (p : Int) : Wr → Int
  | .coded m c => p * m * c
  | .pieces m _ => p * m
  | .cut m _ => p * m
  | .filled m => p * m
  | _ => p
def fineL (ws : List Wr) : Int := ws.foldl stepF 1
inductive WrapsAt (K : PySem.W.Frag) (H : Hp) : List V → List Wr → Prop where
  | nil : WrapsAt K H [] []
  | cons {a : Addr} {x : Wr} {xs : List V} {ws : List Wr} (h : WrapAt K H a x) (r : WrapsAt K H xs ws) : WrapsAt K H (.ref a :: xs) (x :: ws)
theorem WrapsAt.len {K : PySem.W.Frag} {H : Hp} {xs : List V} {ws : List Wr} (h : WrapsAt K H xs ws) : xs.length = ws.length := by
  induction h with
  | nil => rfl
  | cons _ _ ih => exact congrArg (· + 1) ih
theorem WrapsAt.get {K : PySem.W.Frag} {H : Hp} {xs : List V} {ws : List Wr} (h : WrapsAt K H xs ws) : ∀ {i : Nat} {x : V}, xs[i]? = some x → ∃ (a : Addr) (y : Wr), x = .ref a ∧ ws[i]? = some y ∧ WrapAt K H a y := by
  induction h with
  | nil =>
    intro i x e
    simp at e
  | cons h _ ih =>
    intro i x e
    cases i with
    | zero =>
      simp at e
      exact ⟨_, _, e.symm, rfl, h⟩
    | succ i => exact ih (by simpa using e)
theorem WrapsAt.same {K : PySem.W.Frag} {H H' : Hp} {xs : List V} {ws : List Wr} (h : WrapsAt K H xs ws) (s : Same H H') : WrapsAt K H' xs ws := by
  induction h with
  | nil => exact .nil
  | cons h _ ih => exact .cons (h.same s) ih
theorem WrapsAt.snoc {K : PySem.W.Frag} {H : Hp} {xs : List V} {ws : List Wr} {a : Addr} {x : Wr} (h : WrapsAt K H xs ws) (hx : WrapAt K H a x) : WrapsAt K H (xs ++ [.ref a]) (ws ++ [x]) := by
  induction h with
  | nil => exact .cons hx .nil
  | cons h _ ih => exact .cons h ih
def stkFs (b : Int) (t : Addr) (ws : List Wr) : List (Str × V) := [("base", .int b), ("wraps", .ref t), ("fineness", .int (fineL ws))]
structure StkOk (b : Int) (ws : List Wr) : Prop where
  b0 : 2 ≤ b
  b1 : b ≤ 256
  ok : ∀ a ∈ ws, a.ok
  len : ws.length ≤ 6
  fine : fineL ws ≤ 120
/-- a stack stands there -/
def StkAt (K : PySem.W.Frag) (H : Hp) (q : Addr) (b : Int) (ws : List Wr) : Prop := ∃ dx t xs, H q = some (.ins (He.ga K "Stack") dx (stkFs b t ws)) ∧ H t = some (.tup xs) ∧ WrapsAt K H xs ws
theorem StkAt.same {K : PySem.W.Frag} {H H' : Hp} {q : Addr} {b : Int} {ws : List Wr} (h : StkAt K H q b ws) (s : Same H H') : StkAt K H' q b ws := by
  obtain ⟨dx, t, xs, h1, h2, h3⟩ := h
  exact ⟨dx, t, xs, s _ _ h1, s _ _ h2, h3.same s⟩
/-- the size behind all wraps -/
noncomputable def grS (b : Int) (ws : List Wr) (n : Int) : Int := ws.foldl (fun m a => a.gr b m) n
def spFine (K : PySem.W.Frag) : Sp := fun vs H Q _ => ∃ (t : Addr) (xs : List V) (ws : List Wr), vs = [.ref t] ∧ (SqL K H t xs ∨ SqT K H t xs) ∧ WrapsAt K H xs ws ∧ (∀ a ∈ ws, a.ok) ∧ ∀ H', Same H H' → Q (.int (fineL ws)) H'
def spWraps (K : PySem.W.Frag) : Sp := fun vs H Q _ => ∃ (t : Addr) (xs : List V) (ws : List Wr), vs = [.ref t, .int 6] ∧ SqT K H t xs ∧ WrapsAt K H xs ws ∧ ws.length ≤ 6 ∧ ∀ H', Same H H' → Q .non H'
section
variable {P : Program} {w : World} {K : PySem.W.Frag} {mg : Str → Option Value} {base : Heap}
theorem up {H' : Hp} {z : Addr} {o : HO} (hz : H' z = none) : Same H' (upd H' z o) := fun y u e => by
  rw [upd_ne (ne_of_none e hz)]
  exact e
theorem ifb_pos {b : Bool} {A B : Prop} (h : b = true) (a : A) : if b = true then A else B := by
  rw [if_pos h]
  exact a
theorem ifb_neg {b : Bool} {A B : Prop} (h : b = false) (a : B) : if b = true then A else B := by
  rw [h, if_neg Bool.false_ne_true]
  exact a
theorem ok_fineness_of (T : Tx w K mg) : Prom P w K mg base CX0 1 "fineness_of" s_fineness_of ["wraps"] (spFine K) := by
  refine Prom.of T.d_fineness_of sc_fineness_of (fun vs H Q E h => ?_) (fun _ _ _ _ _ _ us hl => match us, hl with | [_], _ => rfl) (fun f cdv A outer s H vs Q E hr h => ?_)
  · obtain ⟨t, xs, ws, rfl, _⟩ := h
    rfl
  · obtain ⟨t, xs, ws, rfl, hT, hw, ha, k⟩ := h
    have inv : True := trivial
    refine ⟨_, (pss_cons (ps_set (i := 1) sc_fineness_of.nd rfl (Or.inl rfl) pe_int)
      (pss_cons (ps_for PassesOwn.never (by rfl) (pi_seq (pv 0)) (pg_name (i := 2) sc_fineness_of.nd rfl (Or.inl rfl)) (pss_one (ps_if (pt_cmpR op_eq (pe_fld (pv 2) rfl) pe_str (nomark _)) (pss_one (ps_set (i := 1) sc_fineness_of.nd rfl (Or.inl rfl) (pe_op op_mul (pe_op op_mul (pv 1) (pe_ix ix_tup (pe_fld (pv 2) rfl) pe_int (fun _ _ => rfl))) (pe_ix ix_tup (pe_fld (pv 2) rfl) pe_int (fun _ _ => rfl))))) (pss_one (ps_if (pt_cmpR op_in_seq (pe_fld (pv 2) rfl) (pe_tup (pa_cons pe_str (pa_cons pe_str (pa_cons pe_str pa_nil)))) (by rfl)) (pss_one (ps_set (i := 1) sc_fineness_of.nd rfl (Or.inl rfl) (pe_op op_mul (pv 1) (pe_ix ix_tup (pe_fld (pv 2) rfl) pe_int (fun _ _ => rfl))))) pss_nil)))))
      (pss_one (ps_ret (pv 1))))), ?_⟩
    rcases hT with hT | hT
    · have hT' : ∀ {H' : Hp}, Same H H' → SqL K H' t xs := fun {H'} hs => hs.seq hT
      refine .inl ⟨_, rfl, t, rfl, ⟨_, hT⟩, for_it (walk_list (K := K) (a := t) (xs := xs)) (fun i σ H' => Same H H' ∧ ∃ v, σ = [some (.ref t), some (.int ((ws.take i).foldl stepF 1)), v]) ⟨Same.refl H, none, rfl⟩ (fun _ _ H' _ h => hT' h.1) ?_ ?_⟩
      · rintro i x σ H1 H2 hi ⟨hs, v, rfl⟩ ⟨rfl, hx⟩
        obtain ⟨q, a, rfl, hq, hw1⟩ := hw.get hx
        have hok := ha a (List.mem_of_getElem? hq)
        obtain ⟨dx, p, h1, h2⟩ := hw1.same hs
        have et : (ws.take (i + 1)).foldl stepF 1 = stepF ((ws.take i).foldl stepF 1) a := by
          rw [List.take_succ, hq, List.foldl_append]
          rfl
        generalize (ws.take i).foldl stepF 1 = m at et ⊢
        rw [et]
        have num : ∀ {j : Nat} {n : Int}, a.nums[j]? = some n → atI (a.nums.map V.int) ((j : Nat) : Int) = some (.int n) := fun {j n} hj => atI_nat (by rw [List.getElem?_map, hj]; rfl)
        refine ⟨_, rfl, q, _, dx, _, _, rfl, h1, T.cl_Wrap, T.na_Wrap_kind, rfl, rfl, _, rfl, ?_⟩
        cases a with
        | coded m' c =>
          refine ifd_pos rfl ?_
          simp only [Wr.ok] at hok
          refine ⟨_, rfl, _, rfl, q, _, dx, _, _, rfl, h1, T.cl_Wrap, T.na_Wrap_numbers, rfl, p, _, _, _, rfl, rfl, SqT.of h2, num (j := 0) rfl, _, _, rfl, rfl, .inr ⟨by omega, by omega⟩, ?_⟩
          refine ⟨_, rfl, q, _, dx, _, _, rfl, h1, T.cl_Wrap, T.na_Wrap_numbers, rfl, p, _, _, _, rfl, rfl, SqT.of h2, num (j := 1) rfl, _, _, rfl, rfl, .inr ⟨by omega, by omega⟩, ?_⟩
          exact ⟨hs, _, rfl⟩
        | plus c =>
          refine ifs_neg (show ("plus" : Str) ≠ "coded" by decide) ?_
          refine ⟨_, rfl, q, _, dx, _, _, rfl, h1, T.cl_Wrap, T.na_Wrap_kind, rfl, (by show 3 ≤ sizeLine; decide), fun t2 ht2 => ?_⟩
          refine ⟨t2, _, rfl, .inr (SqT.of upd_same), rfl, rfl, _, rfl, ifb_neg (by kernel_rfl) ?_⟩
          exact ⟨hs.trans (up ht2), _, rfl⟩
        | told c =>
          refine ifs_neg (show ("told" : Str) ≠ "coded" by decide) ?_
          refine ⟨_, rfl, q, _, dx, _, _, rfl, h1, T.cl_Wrap, T.na_Wrap_kind, rfl, (by show 3 ≤ sizeLine; decide), fun t2 ht2 => ?_⟩
          refine ⟨t2, _, rfl, .inr (SqT.of upd_same), rfl, rfl, _, rfl, ifb_neg (by kernel_rfl) ?_⟩
          exact ⟨hs.trans (up ht2), _, rfl⟩
        | whole c =>
          refine ifs_neg (show ("whole" : Str) ≠ "coded" by decide) ?_
          refine ⟨_, rfl, q, _, dx, _, _, rfl, h1, T.cl_Wrap, T.na_Wrap_kind, rfl, (by show 3 ≤ sizeLine; decide), fun t2 ht2 => ?_⟩
          refine ⟨t2, _, rfl, .inr (SqT.of upd_same), rfl, rfl, _, rfl, ifb_neg (by kernel_rfl) ?_⟩
          exact ⟨hs.trans (up ht2), _, rfl⟩
        | pieces m' c =>
          refine ifs_neg (show ("pieces" : Str) ≠ "coded" by decide) ?_
          simp only [Wr.ok] at hok
          refine ⟨_, rfl, q, _, dx, _, _, rfl, h1, T.cl_Wrap, T.na_Wrap_kind, rfl, (by show 3 ≤ sizeLine; decide), fun t2 ht2 => ?_⟩
          refine ⟨t2, _, rfl, .inr (SqT.of upd_same), rfl, rfl, _, rfl, ifb_pos (by kernel_rfl) ?_⟩
          have g1 := (up ht2 (o := .tup [V.str "pieces", V.str "cut", V.str "filled"])) _ _ h1
          have g2 := (up ht2 (o := .tup [V.str "pieces", V.str "cut", V.str "filled"])) _ _ h2
          refine ⟨_, rfl, _, rfl, q, _, dx, _, _, rfl, g1, T.cl_Wrap, T.na_Wrap_numbers, rfl, p, _, _, _, rfl, rfl, SqT.of g2, num (j := 0) rfl, _, _, rfl, rfl, .inr ⟨by omega, by omega⟩, ?_⟩
          exact ⟨hs.trans (up ht2), _, rfl⟩
        | cut m' c =>
          refine ifs_neg (show ("cut" : Str) ≠ "coded" by decide) ?_
          simp only [Wr.ok] at hok
          refine ⟨_, rfl, q, _, dx, _, _, rfl, h1, T.cl_Wrap, T.na_Wrap_kind, rfl, (by show 3 ≤ sizeLine; decide), fun t2 ht2 => ?_⟩
          refine ⟨t2, _, rfl, .inr (SqT.of upd_same), rfl, rfl, _, rfl, ifb_pos (by kernel_rfl) ?_⟩
          have g1 := (up ht2 (o := .tup [V.str "pieces", V.str "cut", V.str "filled"])) _ _ h1
          have g2 := (up ht2 (o := .tup [V.str "pieces", V.str "cut", V.str "filled"])) _ _ h2
          refine ⟨_, rfl, _, rfl, q, _, dx, _, _, rfl, g1, T.cl_Wrap, T.na_Wrap_numbers, rfl, p, _, _, _, rfl, rfl, SqT.of g2, num (j := 0) rfl, _, _, rfl, rfl, .inr ⟨by omega, by omega⟩, ?_⟩
          exact ⟨hs.trans (up ht2), _, rfl⟩
        | filled m' =>
          refine ifs_neg (show ("filled" : Str) ≠ "coded" by decide) ?_
          simp only [Wr.ok] at hok
          refine ⟨_, rfl, q, _, dx, _, _, rfl, h1, T.cl_Wrap, T.na_Wrap_kind, rfl, (by show 3 ≤ sizeLine; decide), fun t2 ht2 => ?_⟩
          refine ⟨t2, _, rfl, .inr (SqT.of upd_same), rfl, rfl, _, rfl, ifb_pos (by kernel_rfl) ?_⟩
          have g1 := (up ht2 (o := .tup [V.str "pieces", V.str "cut", V.str "filled"])) _ _ h1
          have g2 := (up ht2 (o := .tup [V.str "pieces", V.str "cut", V.str "filled"])) _ _ h2
          refine ⟨_, rfl, _, rfl, q, _, dx, _, _, rfl, g1, T.cl_Wrap, T.na_Wrap_numbers, rfl, p, _, _, _, rfl, rfl, SqT.of g2, num (j := 0) rfl, _, _, rfl, rfl, .inr ⟨by omega, by omega⟩, ?_⟩
          exact ⟨hs.trans (up ht2), _, rfl⟩
      · rintro σ H' ⟨hs, v, rfl⟩
        rw [hw.len, List.take_length]
        exact ⟨_, rfl, k _ hs⟩
    · have hT' : ∀ {H' : Hp}, Same H H' → SqT K H' t xs := fun {H'} hs => by
        rcases hT with (h | ⟨o, h⟩) | h
        · exact .inl (.inl (hs _ _ h))
        · exact .inl (.inr ⟨o, hs _ _ h⟩)
        · exact .inr h
      refine .inr ⟨_, rfl, t, rfl, ⟨_, hT⟩, for_it (walk_tup (K := K) (a := t) (xs := xs)) (fun i σ H' => Same H H' ∧ ∃ v, σ = [some (.ref t), some (.int ((ws.take i).foldl stepF 1)), v]) ⟨Same.refl H, none, rfl⟩ (fun _ _ H' _ h => hT' h.1) ?_ ?_⟩
      · rintro i x σ H1 H2 hi ⟨hs, v, rfl⟩ ⟨rfl, hx⟩
        obtain ⟨q, a, rfl, hq, hw1⟩ := hw.get hx
        have hok := ha a (List.mem_of_getElem? hq)
        obtain ⟨dx, p, h1, h2⟩ := hw1.same hs
        have et : (ws.take (i + 1)).foldl stepF 1 = stepF ((ws.take i).foldl stepF 1) a := by
          rw [List.take_succ, hq, List.foldl_append]
          rfl
        generalize (ws.take i).foldl stepF 1 = m at et ⊢
        rw [et]
        have num : ∀ {j : Nat} {n : Int}, a.nums[j]? = some n → atI (a.nums.map V.int) ((j : Nat) : Int) = some (.int n) := fun {j n} hj => atI_nat (by rw [List.getElem?_map, hj]; rfl)
        refine ⟨_, rfl, q, _, dx, _, _, rfl, h1, T.cl_Wrap, T.na_Wrap_kind, rfl, rfl, _, rfl, ?_⟩
        cases a with
        | coded m' c =>
          refine ifd_pos rfl ?_
          simp only [Wr.ok] at hok
          refine ⟨_, rfl, _, rfl, q, _, dx, _, _, rfl, h1, T.cl_Wrap, T.na_Wrap_numbers, rfl, p, _, _, _, rfl, rfl, SqT.of h2, num (j := 0) rfl, _, _, rfl, rfl, .inr ⟨by omega, by omega⟩, ?_⟩
          refine ⟨_, rfl, q, _, dx, _, _, rfl, h1, T.cl_Wrap, T.na_Wrap_numbers, rfl, p, _, _, _, rfl, rfl, SqT.of h2, num (j := 1) rfl, _, _, rfl, rfl, .inr ⟨by omega, by omega⟩, ?_⟩
          exact ⟨hs, _, rfl⟩
        | plus c =>
          refine ifs_neg (show ("plus" : Str) ≠ "coded" by decide) ?_
          refine ⟨_, rfl, q, _, dx, _, _, rfl, h1, T.cl_Wrap, T.na_Wrap_kind, rfl, (by show 3 ≤ sizeLine; decide), fun t2 ht2 => ?_⟩
          refine ⟨t2, _, rfl, .inr (SqT.of upd_same), rfl, rfl, _, rfl, ifb_neg (by kernel_rfl) ?_⟩
          exact ⟨hs.trans (up ht2), _, rfl⟩
        | told c =>
          refine ifs_neg (show ("told" : Str) ≠ "coded" by decide) ?_
          refine ⟨_, rfl, q, _, dx, _, _, rfl, h1, T.cl_Wrap, T.na_Wrap_kind, rfl, (by show 3 ≤ sizeLine; decide), fun t2 ht2 => ?_⟩
          refine ⟨t2, _, rfl, .inr (SqT.of upd_same), rfl, rfl, _, rfl, ifb_neg (by kernel_rfl) ?_⟩
          exact ⟨hs.trans (up ht2), _, rfl⟩
        | whole c =>
          refine ifs_neg (show ("whole" : Str) ≠ "coded" by decide) ?_
          refine ⟨_, rfl, q, _, dx, _, _, rfl, h1, T.cl_Wrap, T.na_Wrap_kind, rfl, (by show 3 ≤ sizeLine; decide), fun t2 ht2 => ?_⟩
          refine ⟨t2, _, rfl, .inr (SqT.of upd_same), rfl, rfl, _, rfl, ifb_neg (by kernel_rfl) ?_⟩
          exact ⟨hs.trans (up ht2), _, rfl⟩
        | pieces m' c =>
          refine ifs_neg (show ("pieces" : Str) ≠ "coded" by decide) ?_
          simp only [Wr.ok] at hok
          refine ⟨_, rfl, q, _, dx, _, _, rfl, h1, T.cl_Wrap, T.na_Wrap_kind, rfl, (by show 3 ≤ sizeLine; decide), fun t2 ht2 => ?_⟩
          refine ⟨t2, _, rfl, .inr (SqT.of upd_same), rfl, rfl, _, rfl, ifb_pos (by kernel_rfl) ?_⟩
          have g1 := (up ht2 (o := .tup [V.str "pieces", V.str "cut", V.str "filled"])) _ _ h1
          have g2 := (up ht2 (o := .tup [V.str "pieces", V.str "cut", V.str "filled"])) _ _ h2
          refine ⟨_, rfl, _, rfl, q, _, dx, _, _, rfl, g1, T.cl_Wrap, T.na_Wrap_numbers, rfl, p, _, _, _, rfl, rfl, SqT.of g2, num (j := 0) rfl, _, _, rfl, rfl, .inr ⟨by omega, by omega⟩, ?_⟩
          exact ⟨hs.trans (up ht2), _, rfl⟩
        | cut m' c =>
          refine ifs_neg (show ("cut" : Str) ≠ "coded" by decide) ?_
          simp only [Wr.ok] at hok
          refine ⟨_, rfl, q, _, dx, _, _, rfl, h1, T.cl_Wrap, T.na_Wrap_kind, rfl, (by show 3 ≤ sizeLine; decide), fun t2 ht2 => ?_⟩
          refine ⟨t2, _, rfl, .inr (SqT.of upd_same), rfl, rfl, _, rfl, ifb_pos (by kernel_rfl) ?_⟩
          have g1 := (up ht2 (o := .tup [V.str "pieces", V.str "cut", V.str "filled"])) _ _ h1
          have g2 := (up ht2 (o := .tup [V.str "pieces", V.str "cut", V.str "filled"])) _ _ h2
          refine ⟨_, rfl, _, rfl, q, _, dx, _, _, rfl, g1, T.cl_Wrap, T.na_Wrap_numbers, rfl, p, _, _, _, rfl, rfl, SqT.of g2, num (j := 0) rfl, _, _, rfl, rfl, .inr ⟨by omega, by omega⟩, ?_⟩
          exact ⟨hs.trans (up ht2), _, rfl⟩
        | filled m' =>
          refine ifs_neg (show ("filled" : Str) ≠ "coded" by decide) ?_
          simp only [Wr.ok] at hok
          refine ⟨_, rfl, q, _, dx, _, _, rfl, h1, T.cl_Wrap, T.na_Wrap_kind, rfl, (by show 3 ≤ sizeLine; decide), fun t2 ht2 => ?_⟩
          refine ⟨t2, _, rfl, .inr (SqT.of upd_same), rfl, rfl, _, rfl, ifb_pos (by kernel_rfl) ?_⟩
          have g1 := (up ht2 (o := .tup [V.str "pieces", V.str "cut", V.str "filled"])) _ _ h1
          have g2 := (up ht2 (o := .tup [V.str "pieces", V.str "cut", V.str "filled"])) _ _ h2
          refine ⟨_, rfl, _, rfl, q, _, dx, _, _, rfl, g1, T.cl_Wrap, T.na_Wrap_numbers, rfl, p, _, _, _, rfl, rfl, SqT.of g2, num (j := 0) rfl, _, _, rfl, rfl, .inr ⟨by omega, by omega⟩, ?_⟩
          exact ⟨hs.trans (up ht2), _, rfl⟩
      · rintro σ H' ⟨hs, v, rfl⟩
        rw [hw.len, List.take_length]
        exact ⟨_, rfl, k _ hs⟩
end
theorem gr_pow {b : Int} {a : Wr} (hb : 2 ≤ b) (h : a.ok) {n : Int} {k : Nat} (hk : 12 ≤ k) (hn : 0 ≤ n) (hn2 : n < 2 ^ k) : 0 ≤ a.gr b n ∧ a.gr b n < 2 ^ (k + 8) := by
  have g := gr_le hb h hn
  have e : (2 : Int) ^ (k + 8) = 2 ^ k * 256 := by rw [Int.pow_add]; rfl
  have e2 : (2 : Int) ^ 12 ≤ 2 ^ k := pow_mono (by decide) hk
  have e3 : (2 : Int) ^ 12 = 4096 := by decide
  omega
theorem grS_pow {b : Int} (hb : 2 ≤ b) : ∀ (ws : List Wr), (∀ a ∈ ws, a.ok) → ∀ {n : Int} {k : Nat}, 12 ≤ k → 0 ≤ n → n < 2 ^ k → 0 ≤ grS b ws n ∧ grS b ws n < 2 ^ (k + 8 * ws.length)
  | [], _, n, k, _, h0, h1 => ⟨h0, h1⟩
  | a :: ws, ha, n, k, hk, h0, h1 => by
    have g := gr_pow hb (ha a (List.mem_cons_self ..)) hk h0 h1
    have ih := grS_pow hb ws (fun x hx => ha x (List.mem_cons_of_mem _ hx)) (show 12 ≤ k + 8 by omega) g.1 g.2
    refine ⟨ih.1, ?_⟩
    have e : k + 8 + 8 * ws.length = k + 8 * (a :: ws).length := by simp; omega
    rw [e] at ih
    exact ih.2
def spStack0 (K : PySem.W.Frag) : Sp := fun vs H Q _ => ∃ (x p dx : Addr) (b : Int) (xs : List V) (ws : List Wr), vs = [.ref x, .int b, .ref p] ∧ StkOk b ws ∧ H x = some (.ins (He.ga K "Stack") dx []) ∧ H p = some (.tup xs) ∧ WrapsAt K H xs ws ∧
  ∀ H', Kp x H H' → H' x = some (.ins (He.ga K "Stack") dx (stkFs b p ws)) → Q .non H'
def spStack (K : PySem.W.Frag) : Sp := fun vs H Q _ => ∃ (b : Int) (xs : List V) (ws : List Wr), vs = .int b :: xs ∧ StkOk b ws ∧ WrapsAt K H xs ws ∧ ∀ q H', H q = none → Same H H' → StkAt K H' q b ws → Q (.ref q) H'
def spSGrown (K : PySem.W.Frag) : Sp := fun vs H Q _ => ∃ (q : Addr) (b : Int) (ws : List Wr) (n : Int), vs = [.ref q, .int n] ∧ StkAt K H q b ws ∧ StkOk b ws ∧ 0 ≤ n ∧ n < 2 ^ 1000 ∧ Q (.int (grS b ws n)) H
def spSSize (K : PySem.W.Frag) : Sp := fun vs H Q _ => ∃ (q : Addr) (b : Int) (ws : List Wr) (n : Int), vs = [.ref q, .int n] ∧ StkAt K H q b ws ∧ StkOk b ws ∧ 0 ≤ n ∧ n ≤ 10 ^ 60 - 1 ∧ Q (.int (grS b ws n)) H
def spIsWrap (K : PySem.W.Frag) : Sp := fun vs H Q _ => ∃ (q : Addr) (a : Wr), vs = [.ref q] ∧ WrapAt K H q a ∧ Q .non H
def spIsStack (K : PySem.W.Frag) : Sp := fun vs H Q _ => ∃ (q : Addr) (b : Int) (ws : List Wr), vs = [.ref q] ∧ StkAt K H q b ws ∧ Q .non H
def spAdd (K : PySem.W.Frag) : Sp := fun vs H Q _ => ∃ (q r : Addr) (b : Int) (ws : List Wr) (a : Wr), vs = [.ref q, .ref r] ∧ StkAt K H q b ws ∧ WrapAt K H r a ∧ ws.length < 6 ∧ StkOk b (ws ++ [a]) ∧ ∀ q' H', H q' = none → Same H H' → StkAt K H' q' b (ws ++ [a]) → Q (.ref q') H'
section
variable {P : Program} {w : World} {K : PySem.W.Frag} {mg : Str → Option Value} {base : Heap}
theorem ok_check_wraps (T : Tx w K mg) : Prom P w K mg base CX0 1 "check_wraps" s_check_wraps ["values", "most"] (spWraps K) := by
  refine Prom.of T.d_check_wraps sc_check_wraps (fun vs H Q E h => ?_) (fun _ _ _ _ _ _ us hl => match us, hl with | [_, _], _ => rfl) (fun f cdv A outer s H vs Q E hr h => ?_)
  · obtain ⟨t, xs, ws, rfl, _⟩ := h
    rfl
  · obtain ⟨t, xs, ws, rfl, hT, hw, hl, k⟩ := h
    have hT' : ∀ {H' : Hp}, Same H H' → SqT K H' t xs := fun {H'} hs => by
      rcases hT with (h | ⟨o, h⟩) | h
      · exact .inl (.inl (hs _ _ h))
      · exact .inl (.inr ⟨o, hs _ _ h⟩)
      · exact .inr h
    have hlx := hw.len
    refine ⟨_, (pss_cons (ps_if (pt_cmp (pc_gt (pe_callB call_len_seq (by rfl) T.b_len (by decide +kernel) (pa_cons (pv 0) pa_nil)) (pv 1))) (pss_one ps_never) pss_nil)
      (pss_one (ps_for PassesOwn.never (by rfl) (pi_enumT (by rfl) T.b_enumerate (pa_cons (pv 0) pa_nil)) (pg_tup rfl (pgs_cons (pg_name (i := 2) sc_check_wraps.nd rfl (Or.inl rfl)) (pgs_cons (pg_name (i := 3) sc_check_wraps.nd rfl (Or.inl rfl)) pgs_nil))) (pss_one (ps_if (pt_not (pt_val (pe_callB call_isi (by rfl) T.b_isinstance (by decide +kernel) (pa_cons (pv 3) (pa_cons (pe_glob (v := .ref _) (by rfl) T.k_Wrap rfl) pa_nil))))) (pss_one ps_never) pss_nil))))), ?_⟩
    refine ⟨_, rfl, t, xs, rfl, .inr hT, _, rfl, _, _, rfl, rfl, _, rfl, ifd (fun c => absurd c (by show ¬ (6 : Int) < (xs.length : Int); omega)) (fun _ => ?_)⟩
    refine ⟨_, rfl, t, xs, rfl, hT, for_it (walk_enumT (K := K) (a := t) (xs := xs)) (fun i σ H' => Same H H' ∧ ∃ v1 v2, σ = [some (.ref t), some (.int 6), v1, v2]) ⟨Same.refl H, none, none, rfl⟩ (fun _ _ H' _ h => hT' h.1) ?_ ?_⟩
    · rintro i x σ H1 H2 hi ⟨hs, v1, v2, rfl⟩ ⟨t2, x1, x2, rfl, ht2, rfl, e1, e2⟩
      cases e1
      obtain ⟨q, a, rfl, hq, hw1⟩ := hw.get e2
      have hs2 := hs.trans (up (o := .tup [.int (i : Nat), .ref q]) ht2)
      obtain ⟨dx, p, h1, h2⟩ := hw1.same hs2
      refine ⟨t2, _, rfl, SqT.of upd_same, rfl, _, _, rfl, _, _, rfl, rfl, ?_⟩
      refine ⟨_, rfl, _, _, _, _, true, rfl, .own _, T.is_Wrap.ty h1, kit_self, true, rfl, iteF ?_⟩
      exact ⟨hs2, _, _, rfl⟩
    · rintro σ H' ⟨hs, v1, v2, rfl⟩
      exact k _ hs
theorem ok_Stack (T : Tx w K mg) : PromC P w K mg base CX0 4 "Stack" (spStack K) := by
  refine PromC.star (sp0 := spStack0 K) T.mk_Stack T.k_Stack T.dm_Stack___init__ sc_Stack___init__ (fun _ _ _ _ _ _ _ _ => rfl) (fun _ _ _ _ _ _ _ _ _ _ => rfl) (fun f cdv A outer s H vs Q E hr h => ?_) (fun vs H Q E h => ?_)
  · obtain ⟨x, p, dx, b, xs, ws, rfl, so, hx, hp, hw, k⟩ := h
    refine ⟨_, (pss_cons (ps_expr (pe_callP (ok_check_base T) (hr.mono (by decide)) (by rfl) pass0 (pa_cons (pv 1) pa_nil)))
      (pss_cons (ps_expr (pe_callP (ok_check_wraps T) (hr.mono (by decide)) (by rfl) pass0 (pa_cons (pv 2) (pa_cons (pe_gint T.c_MOST_WRAPS) pa_nil))))
      (pss_cons (ps_set (i := 3) sc_Stack___init__.nd rfl (Or.inl rfl) (pe_callP (ok_fineness_of T) (hr.mono (by decide)) (by rfl) pass0 (pa_cons (pv 2) pa_nil)))
      (pss_cons (ps_if (pt_cmp (pc_gt (pv 3) (pe_gint T.c_MOST_FINENESS))) (pss_one ps_never) pss_nil)
      (pss_cons (ps_fld (pv 0) (pv 1) rfl)
      (pss_cons (ps_fld (pv 0) (pv 2) rfl)
      (pss_one (ps_fld (pv 0) (pv 3) rfl)))))))), ?_⟩
    refine ⟨_, rfl, b, rfl, so.b0, so.b1, ?_⟩
    refine ⟨_, rfl, p, xs, ws, rfl, SqT.of hp, hw, so.len, fun H1 s1 => ?_⟩
    refine ⟨_, rfl, p, xs, ws, rfl, .inr (SqT.of (s1 _ _ hp)), hw.same s1, so.ok, fun H2 s2 => ?_⟩
    have sf := so.fine
    refine ⟨_, rfl, _, _, rfl, rfl, _, rfl, ifd (fun c => absurd c (by show ¬ (120 : Int) < fineL ws; omega)) (fun _ => ?_)⟩
    refine ⟨_, rfl, _, rfl, x, _, dx, _, rfl, s2 _ _ (s1 _ _ hx), T.cl_Stack, T.na_Stack_base, (show (0 : Nat) < 1000 by decide), ?_⟩
    refine ⟨_, rfl, _, rfl, x, _, dx, _, rfl, upd_same, T.cl_Stack, T.na_Stack_wraps, (show (1 : Nat) < 1000 by decide), ?_⟩
    refine ⟨_, rfl, _, rfl, x, _, dx, _, rfl, upd_same, T.cl_Stack, T.na_Stack_fineness, (show (2 : Nat) < 1000 by decide), ?_⟩
    exact k _ (Kp.set (Kp.set (Kp.set fun z o n e => s2 _ _ (s1 _ _ e)))) upd_same
  · obtain ⟨b, xs, ws, rfl, so, hw, k⟩ := h
    have hl : xs.length ≤ sizeLine := by
      rw [hw.len, sizeLine_eq]
      have := so.len
      omega
    refine ⟨_, _, rfl, hl, fun x dx p hx hdx nd np npd hp => ?_⟩
    have same : Same H (upd (upd (upd H dx (.own x)) x (.ins (He.ga K "Stack") dx [])) p (.tup xs)) := fun z o e => by
      rw [upd_ne (ne_of_none e hp), upd_ne (ne_of_none e hx), upd_ne (ne_of_none e hdx)]
      exact e
    refine ⟨x, p, dx, b, xs, ws, rfl, so, by rw [upd_ne (Ne.symm np)]; exact upd_same, upd_same, hw.same same, fun H' kp hx' => ⟨rfl, ?_⟩⟩
    have s2 : Same H H' := fun z o e => kp _ _ (ne_of_none e hx) (same _ _ e)
    exact k x H' hx s2 ⟨dx, p, xs, hx', kp _ _ np upd_same, hw.same s2⟩
theorem ok_Stack_grown (T : Tx w K mg) : PromM P w K mg base CX0 4 "Stack" "grown" ["self", "length"] (spSGrown K) := by
  refine PromM.of T.cl_Stack T.me_Stack_grown T.dm_Stack_grown sc_Stack_grown (fun vs H Q E h => ?_) (fun _ _ _ _ _ _ us hl => match us, hl with | [_, _], _ => rfl) (fun f cdv A outer s H vs Q E hr h => ?_)
  · obtain ⟨q, b, ws, n, rfl, _⟩ := h
    rfl
  · obtain ⟨q, b, ws, n, rfl, ⟨dx, t, xs, hq, ht, hw⟩, so, n0, n1, k⟩ := h
    refine ⟨_, (pss_cons (ps_for PassesOwn.never (by rfl) (pi_tup (pe_fld (pv 0) rfl)) (pg_name (i := 2) sc_Stack_grown.nd rfl (Or.inl rfl)) (pss_one (ps_set (i := 1) sc_Stack_grown.nd rfl (Or.inl rfl) (pe_methP (ok_Wrap_grown T) (hr.mono (by decide)) pass0 (pv 2) (pa_cons (pv 1) (pa_cons (pe_fld (pv 0) rfl) pa_nil))))))
      (pss_one (ps_ret (pv 1)))), ?_⟩
    refine ⟨_, rfl, q, _, dx, _, _, rfl, hq, T.cl_Stack, T.na_Stack_wraps, rfl, t, rfl, ⟨_, SqT.of ht⟩, for_it (walk_tup (K := K) (a := t) (xs := xs)) (fun i σ H' => H' = H ∧ ∃ v, σ = [some (.ref q), some (.int (grS b (ws.take i) n)), v]) ⟨rfl, none, rfl⟩ (fun _ _ H' _ h => by rw [h.1]; exact SqT.of ht) ?_ ?_⟩
    · rintro i x σ H1 H2 hi ⟨rfl, v, rfl⟩ ⟨rfl, hx⟩
      obtain ⟨r, a, rfl, hr2, hw1⟩ := hw.get hx
      have hok := so.ok a (List.mem_of_getElem? hr2)
      obtain ⟨dx2, p, h1, h2⟩ := id hw1
      have et : grS b (ws.take (i + 1)) n = a.gr b (grS b (ws.take i) n) := by
        unfold grS
        rw [List.take_succ, hr2, List.foldl_append]
        rfl
      have hl := so.len
      have hlt : (ws.take i).length ≤ 6 := by
        rw [List.length_take]
        omega
      have bd := grS_pow so.b0 (ws.take i) (fun z hz => so.ok z (List.mem_of_mem_take hz)) (show 12 ≤ 1000 by decide) n0 n1
      have bd2 : grS b (ws.take i) n < 2 ^ 3000 := Int.lt_of_lt_of_le bd.2 (pow_mono (by decide) (by omega))
      rw [et]
      generalize grS b (ws.take i) n = m at bd bd2 ⊢
      refine ⟨_, rfl, r, dx2, _, rfl, h1, rfl, _, rfl, _, rfl, q, _, dx, _, _, rfl, hq, T.cl_Stack, T.na_Stack_base, rfl, a, r, m, b, rfl, hw1, hok, so.b0, so.b1, bd.1, bd2, ?_⟩
      exact ⟨rfl, _, rfl⟩
    · rintro σ H' ⟨rfl, v, rfl⟩
      rw [hw.len, List.take_length]
      exact ⟨_, rfl, k⟩
end
section
variable {P : Program} {w : World} {K : PySem.W.Frag} {mg : Str → Option Value} {base : Heap}
theorem ok_check_wrap (T : Tx w K mg) : Prom P w K mg base CX0 1 "check_wrap" s_check_wrap ["value"] (spIsWrap K) := by
  refine Prom.of T.d_check_wrap sc_check_wrap (fun vs H Q E h => ?_) (fun _ _ _ _ _ _ us hl => match us, hl with | [_], _ => rfl) (fun f cdv A outer s H vs Q E hr h => ?_)
  · obtain ⟨q, a, rfl, _⟩ := h
    rfl
  · obtain ⟨q, a, rfl, ⟨dx, p, h1, h2⟩, k⟩ := h
    refine ⟨_, (pss_one (ps_if (pt_not (pt_val (pe_callB call_isi (by rfl) T.b_isinstance (by decide +kernel) (pa_cons (pv 0) (pa_cons (pe_glob (v := .ref _) (by rfl) T.k_Wrap rfl) pa_nil))))) (pss_one ps_never) pss_nil)), ?_⟩
    exact ⟨_, rfl, _, _, _, _, true, rfl, .own _, T.is_Wrap.ty h1, kit_self, true, rfl, iteF k⟩
end
def spSLen (K : PySem.W.Frag) : Sp := fun vs H Q _ => ∃ (q : Addr) (b : Int) (ws : List Wr), vs = [.ref q] ∧ StkAt K H q b ws ∧ Q (.int (ws.length : Nat)) H
section
variable {P : Program} {w : World} {K : PySem.W.Frag} {mg : Str → Option Value} {base : Heap}
theorem ok_Stack___len__ (T : Tx w K mg) : PromM P w K mg base CX0 1 "Stack" "__len__" ["self"] (spSLen K) := by
  refine PromM.of T.cl_Stack T.me_Stack___len__ T.dm_Stack___len__ sc_Stack___len__ (fun vs H Q E h => ?_) (fun _ _ _ _ _ _ us hl => match us, hl with | [_], _ => rfl) (fun f cdv A outer s H vs Q E hr h => ?_)
  · obtain ⟨q, b, ws, rfl, _⟩ := h
    rfl
  · obtain ⟨q, b, ws, rfl, ⟨dx, t, xs, hq, ht, hw⟩, k⟩ := h
    refine ⟨_, (pss_one (ps_ret (pe_callB call_len_seq (by rfl) T.b_len (by decide +kernel) (pa_cons (pe_fld (pv 0) rfl) pa_nil)))), ?_⟩
    rw [← hw.len] at k
    exact ⟨_, rfl, q, _, dx, _, _, rfl, hq, T.cl_Stack, T.na_Stack_wraps, rfl, t, xs, rfl, .inr (SqT.of ht), k⟩
end
def Wr.use : Wr → Int
  | .coded m c => m * c
  | .pieces m _ => m
  | .cut m _ => m
  | .filled m => m
  | _ => 1
theorem step_use (p : Int) (a : Wr) : stepF p a = p * a.use := by
  cases a <;> simp [stepF, Wr.use, Int.mul_assoc]
theorem use_pos {a : Wr} (h : a.ok) : 1 ≤ a.use := by
  cases a with
  | coded m c =>
    simp only [Wr.ok] at h
    simp only [Wr.use]
    have := Int.mul_le_mul h.1 (show 1 ≤ c by omega) (by decide) (by omega)
    omega
  | _ => simp only [Wr.ok] at h; simp only [Wr.use]; omega
theorem fine_app (ws : List Wr) (a : Wr) : fineL (ws ++ [a]) = fineL ws * a.use := by
  unfold fineL
  rw [List.foldl_append]
  exact step_use _ a
theorem fine_pos : ∀ {ws : List Wr}, (∀ a ∈ ws, a.ok) → ∀ {p : Int}, 1 ≤ p → p ≤ ws.foldl stepF p
  | [], _, p, _ => Int.le_refl p
  | a :: ws, h, p, hp => by
    have u := use_pos (h a (List.mem_cons_self ..))
    have m := Int.mul_le_mul_of_nonneg_left u (show 0 ≤ p by omega)
    rw [Int.mul_one] at m
    have e : stepF p a = p * a.use := step_use p a
    have ih := fine_pos (ws := ws) (fun x hx => h x (List.mem_cons_of_mem _ hx)) (p := stepF p a) (by omega)
    show p ≤ ws.foldl stepF (stepF p a)
    omega
theorem fine_take {ws : List Wr} (h : ∀ a ∈ ws, a.ok) (i : Nat) : fineL (ws.take i) ≤ fineL ws := by
  have e : fineL ws = (ws.drop i).foldl stepF (fineL (ws.take i)) := by
    unfold fineL
    rw [← List.foldl_append, List.take_append_drop]
  rw [e]
  exact fine_pos (fun x hx => h x (List.mem_of_mem_drop hx)) (fine_pos (fun x hx => h x (List.mem_of_mem_take hx)) (by decide))
/-- the numbers from lo on whose square is within the room, among so many -/
def sqs (r : Int) (i : Nat) : List Int := ((List.range i).map fun (j : Nat) => 1 + (j : Int)).filter fun z => decide (z * z ≤ r)
theorem sqs_succ (r : Int) (i : Nat) : sqs r (i + 1) = sqs r i ++ (if (1 + (i : Int)) * (1 + (i : Int)) ≤ r then [1 + (i : Int)] else []) := by
  unfold sqs
  rw [List.range_succ, List.map_append, List.filter_append]
  congr 1
  by_cases c : (1 + (i : Int)) * (1 + (i : Int)) ≤ r <;> simp [c]
theorem sqs_len {r : Int} (hr : 1 ≤ r) : ∀ i : Nat, (sqs r i).length ≤ i ∧ (1 ≤ i → 1 ≤ (sqs r i).length) ∧ ∀ z : Int, 1 ≤ z → z ≤ (sqs r i).length → z * z ≤ r
  | 0 => ⟨Nat.zero_le _, fun h => absurd h (by decide), fun z h0 h1 => by
    have e : (sqs r 0).length = 0 := rfl
    rw [e] at h1
    omega⟩
  | i + 1 => by
    obtain ⟨h1, h2, h3⟩ := sqs_len hr i
    have e := sqs_succ r i
    by_cases c : (1 + (i : Int)) * (1 + (i : Int)) ≤ r
    · rw [e, if_pos c, List.length_append]
      refine ⟨by simp; omega, fun _ => by simp, fun z z0 z1 => ?_⟩
      have zi : z ≤ 1 + (i : Int) := by
        simp at z1
        omega
      exact Int.le_trans (Int.mul_le_mul zi zi (by omega) (by omega)) c
    · rw [e, if_neg c, List.append_nil]
      refine ⟨by omega, fun _ => ?_, h3⟩
      by_cases i0 : i = 0
      · exfalso
        apply c
        rw [i0]
        simp
        omega
      · exact h2 (by omega)
/-! ### steps of a road -/
inductive Stp where
  | push (a : Wr)
  | pop
  | bound (n : Int)
def stepOn (ws : List Wr) : Stp → List Wr
  | .push a => ws ++ [a]
  | .pop => ws.dropLast
  | .bound _ => ws
def stepOk (b : Int) (ws : List Wr) : Stp → Prop
  | .push a => StkOk b (ws ++ [a])
  | .pop => ws ≠ []
  | .bound n => 0 ≤ n ∧ n ≤ 10 ^ 60 - 1
/-- the wraps that are on -/
def onL (ss : List Stp) : List Wr := ss.foldl stepOn []
inductive RoadB (b : Int) : List Stp → Prop where
  | nil : RoadB b []
  | snoc {ss : List Stp} {s : Stp} (h : RoadB b ss) (ok : stepOk b (onL ss) s) : RoadB b (ss ++ [s])
theorem onL_snoc (ss : List Stp) (s : Stp) : onL (ss ++ [s]) = stepOn (onL ss) s := by
  unfold onL
  rw [List.foldl_append]
  rfl
theorem fine_init {ws : List Wr} (h : ∀ a ∈ ws, a.ok) : fineL ws.dropLast ≤ fineL ws := by
  rw [List.dropLast_eq_take]
  exact fine_take h _
theorem StkOk.init {b : Int} {ws : List Wr} (so : StkOk b ws) : StkOk b ws.dropLast :=
  ⟨so.b0, so.b1, fun a ha => so.ok a (by rw [List.dropLast_eq_take] at ha; exact List.mem_of_mem_take ha), by rw [List.length_dropLast]; have := so.len; omega, Int.le_trans (fine_init so.ok) so.fine⟩
theorem StkOk.step {b : Int} {ws : List Wr} {s : Stp} (so : StkOk b ws) (h : stepOk b ws s) : StkOk b (stepOn ws s) := by
  cases s with
  | push a => exact h
  | pop => exact so.init
  | bound n => exact so
theorem StkOk.nil {b : Int} (b0 : 2 ≤ b) (b1 : b ≤ 256) : StkOk b [] := ⟨b0, b1, fun _ h => absurd h (by simp), by simp, by decide⟩
theorem RoadB.stk {b : Int} {ss : List Stp} (b0 : 2 ≤ b) (b1 : b ≤ 256) (h : RoadB b ss) : StkOk b (onL ss) := by
  induction h with
  | nil => exact StkOk.nil b0 b1
  | snoc h ok ih =>
    rw [onL_snoc]
    exact ih.step ok
theorem RoadB.take {b : Int} {ss : List Stp} (h : RoadB b ss) : ∀ i : Nat, RoadB b (ss.take i) := by
  induction h with
  | nil => intro i; simp; exact .nil
  | @snoc ss s h ok ih =>
    intro i
    by_cases z : i ≤ ss.length
    · rw [List.take_append_of_le_length z]
      exact ih i
    · rw [List.take_of_length_le (by rw [List.length_append]; simp; omega)]
      exact .snoc h ok
theorem RoadB.at_ {b : Int} {ss : List Stp} (h : RoadB b ss) : ∀ {i : Nat} {s : Stp}, ss[i]? = some s → stepOk b (onL (ss.take i)) s := by
  induction h with
  | nil => intro i s e; simp at e
  | @snoc ss s' h ok ih =>
    intro i s e
    by_cases z : i < ss.length
    · rw [List.getElem?_append_left z] at e
      rw [List.take_append_of_le_length (by omega)]
      exact ih e
    · have hi : i = ss.length := by
        have := (List.getElem?_eq_some_iff.mp e).1
        rw [List.length_append] at this
        simp at this
        omega
      subst hi
      rw [List.getElem?_append_right (Nat.le_refl _), Nat.sub_self] at e
      have e2 : s' = s := by simpa using e
      rw [List.take_append_of_le_length (Nat.le_refl _), List.take_length, ← e2]
      exact ok
/-! sizes along a road -/
noncomputable def goT (b : Int) (z : Int × List Int) : Stp → Int × List Int
  | .push a => (a.gr b z.1, z.2 ++ [z.1])
  | .pop => (z.2.getLast?.getD 0, z.2.dropLast)
  | .bound _ => z
noncomputable def trS (b : Int) (ss : List Stp) (n : Int) : Int × List Int := ss.foldl (goT b) (n, [])
noncomputable def inner (b : Int) (ws : List Wr) (n : Int) : List Int := (List.range ws.length).map fun j => grS b (ws.take j) n
theorem grS_snoc {b : Int} {ws : List Wr} {a : Wr} {n : Int} : grS b (ws ++ [a]) n = a.gr b (grS b ws n) := by
  unfold grS
  rw [List.foldl_append]
  rfl
theorem inner_snoc {b : Int} {ws : List Wr} {a : Wr} {n : Int} : inner b (ws ++ [a]) n = inner b ws n ++ [grS b ws n] := by
  unfold inner
  rw [List.length_append, List.length_singleton, List.range_succ, List.map_append]
  congr 1
  · refine List.map_congr_left fun j hj => ?_
    have := List.mem_range.mp hj
    rw [List.take_append_of_le_length (by omega)]
  · simp
theorem trS_snoc {b : Int} {ss : List Stp} {s : Stp} {n : Int} : trS b (ss ++ [s]) n = goT b (trS b ss n) s := by
  unfold trS
  rw [List.foldl_append]
  rfl
theorem trS_on {b : Int} {ss : List Stp} (h : RoadB b ss) (n : Int) : trS b ss n = (grS b (onL ss) n, inner b (onL ss) n) := by
  induction h with
  | nil => rfl
  | @snoc ss s h ok ih =>
    rw [trS_snoc, onL_snoc, ih]
    cases s with
    | push a =>
      show (a.gr b (grS b (onL ss) n), inner b (onL ss) n ++ [grS b (onL ss) n]) = (grS b (onL ss ++ [a]) n, inner b (onL ss ++ [a]) n)
      rw [grS_snoc, inner_snoc]
    | pop =>
      have ok : onL ss ≠ [] := ok
      generalize onL ss = ws at ok ⊢
      show ((inner b ws n).getLast?.getD 0, (inner b ws n).dropLast) = (grS b ws.dropLast n, inner b ws.dropLast n)
      have e := List.dropLast_concat_getLast ok
      generalize ws.dropLast = us at e
      generalize ws.getLast ok = a at e
      rw [← e, inner_snoc]
      simp
    | bound m => rfl
/-- all bounds let it through -/
def fitsP (b : Int) (ss : List Stp) (n : Int) : Prop := ∀ (i : Nat) (m : Int), ss[i]? = some (.bound m) → grS b (onL (ss.take i)) n ≤ m
theorem fits_snoc {b : Int} {ss : List Stp} {s : Stp} {n : Int} : fitsP b (ss ++ [s]) n ↔ fitsP b ss n ∧ ∀ m, s = .bound m → grS b (onL ss) n ≤ m := by
  constructor
  · intro h
    refine ⟨fun i m e => ?_, fun m e => ?_⟩
    · have hi : i < ss.length := (List.getElem?_eq_some_iff.mp e).1
      have z := h i m (by rw [List.getElem?_append_left hi]; exact e)
      rw [List.take_append_of_le_length (by omega)] at z
      exact z
    · have z := h ss.length m (by rw [List.getElem?_append_right (Nat.le_refl _), Nat.sub_self, e]; rfl)
      rw [List.take_append_of_le_length (Nat.le_refl _), List.take_length] at z
      exact z
  · rintro ⟨h1, h2⟩ i m e
    by_cases z : i < ss.length
    · rw [List.getElem?_append_left z] at e
      rw [List.take_append_of_le_length (by omega)]
      exact h1 i m e
    · have hi : i = ss.length := by
        have := (List.getElem?_eq_some_iff.mp e).1
        rw [List.length_append] at this
        simp at this
        omega
      subst hi
      rw [List.getElem?_append_right (Nat.le_refl _), Nat.sub_self] at e
      rw [List.take_append_of_le_length (Nat.le_refl _), List.take_length]
      exact h2 m (by simpa using e)
theorem grS_mono {b : Int} (hb : 2 ≤ b) : ∀ (ws : List Wr), (∀ a ∈ ws, a.ok) → ∀ {n k : Int}, 0 ≤ n → n ≤ k → grS b ws n ≤ grS b ws k
  | [], _, n, k, _, h => h
  | a :: ws, ha, n, k, h0, h => grS_mono hb ws (fun x hx => ha x (List.mem_cons_of_mem _ hx)) (gr_le hb (ha a (List.mem_cons_self ..)) h0).1 (gr_mono hb (ha a (List.mem_cons_self ..)) h0 h)
theorem grS_ge {b : Int} (hb : 2 ≤ b) : ∀ (ws : List Wr), (∀ a ∈ ws, a.ok) → ∀ {n : Int}, 0 ≤ n → n ≤ grS b ws n
  | [], _, n, _ => Int.le_refl n
  | a :: ws, ha, n, h0 => Int.le_trans (gr_ge hb (ha a (List.mem_cons_self ..)) h0) (grS_ge hb ws (fun x hx => ha x (List.mem_cons_of_mem _ hx)) (gr_le hb (ha a (List.mem_cons_self ..)) h0).1)
/-! ### the law's pool: what is drawn lies in its range, and nothing else is told of it -/
def PurseAt (H : Hp) (p : Addr) : Prop := ∃ d x y : Int, H p = some (.lst [.int d, .int x, .int y]) ∧ 0 ≤ d ∧ 0 ≤ x ∧ x < 2147483648 ∧ 0 ≤ y ∧ y < 2147483648
theorem PurseAt.of {H : Hp} {p : Addr} {d x y : Int} (h : H p = some (.lst [.int d, .int x, .int y])) (h1 : 0 ≤ d) (h2 : 0 ≤ x) (h3 : x < 2147483648) (h4 : 0 ≤ y) (h5 : y < 2147483648) : PurseAt H p := ⟨d, x, y, h, h1, h2, h3, h4, h5⟩
structure Drew (p : Addr) (H H' : Hp) : Prop where
  at_ : PurseAt H' p
  kp : Kp p H H'
theorem Drew.refl {p : Addr} {H : Hp} (h : PurseAt H p) : Drew p H H := ⟨h, Kp.refl p H⟩
theorem Drew.trans {p : Addr} {H H1 H2 : Hp} (a : Drew p H H1) (b : Drew p H1 H2) : Drew p H H2 := ⟨b.at_, a.kp.trans b.kp⟩
theorem PurseAt.same {p : Addr} {H H' : Hp} (h : PurseAt H p) (s : Same H H') : PurseAt H' p := by
  obtain ⟨m, d, c, e, r⟩ := h
  exact ⟨m, d, c, s _ _ e, r⟩
theorem Drew.same {p : Addr} {H H1 H2 : Hp} (a : Drew p H H1) (b : Same H1 H2) : Drew p H H2 := ⟨a.at_.same b, fun x o n h => b _ _ (a.kp x o n h)⟩
theorem Drew.new {p q : Addr} {H H' : Hp} {o : HO} (a : Drew p H H') (h : H' q = none) : Drew p H (upd H' q o) := a.same fun y u e => by
  rw [upd_ne (ne_of_none e h)]
  exact e
theorem PurseAt.lst {p : Addr} {H : Hp} (h : PurseAt H p) : ∃ xs, H p = some (.lst xs) := by
  obtain ⟨_, _, _, e, _⟩ := h
  exact ⟨_, e⟩
theorem PurseAt.ne {p l : Addr} {H : Hp} (h : PurseAt H p) (hl : H l = none) : l ≠ p := by
  obtain ⟨_, e⟩ := h.lst
  exact Ne.symm (ne_of_none e hl)
theorem new_before {p q : Addr} {H H1 : Hp} (d : Drew p H H1) (hp : PurseAt H p) (hq : H1 q = none) : H q = none := by
  cases e : H q with
  | none => rfl
  | some o =>
    by_cases z : q = p
    · obtain ⟨_, e2⟩ := d.at_.lst
      rw [z, e2] at hq
      cases hq
    · rw [d.kp _ _ z e] at hq
      cases hq
theorem same_before {q : Addr} {H H1 : Hp} (d : Same H H1) (hq : H1 q = none) : H q = none := by
  cases e : H q with
  | none => rfl
  | some o =>
    rw [d _ _ e] at hq
    cases hq
/-- what is no list stays -/
theorem Drew.keep {p q : Addr} {H H1 : Hp} {o : HO} (d : Drew p H H1) (hp : PurseAt H p) (h : H q = some o) (n : ∀ xs, o ≠ .lst xs) : H1 q = some o := by
  obtain ⟨xs, e⟩ := hp.lst
  exact d.kp _ _ (fun z => by rw [z, e] at h; cases h; exact n xs rfl) h
def spCell (K : PySem.W.Frag) : Sp := fun vs H Q _ => ∃ (a : Addr) (ns : List Int) (k : Int), vs = [.ref a, .int k] ∧ SqL K H a (ns.map V.int) ∧ 0 ≤ k ∧ k ≤ 1000 ∧ ∀ z, Q (.int z) H
def spPurse : Sp := fun vs H Q _ => ∃ c : Int, vs = [.int c] ∧ ∀ p H', H p = none → Same H H' → PurseAt H' p → Q (.ref p) H'
def spTake : Sp := fun vs H Q _ => ∃ (p : Addr) (n : Int), vs = [.ref p, .int n] ∧ PurseAt H p ∧ 0 < n ∧ n ≤ 1000000000000000000000000000000 ∧ ∀ r H', 0 ≤ r → r < n → Drew p H H' → Q (.int r) H'
def spDraw (lo hi : Int) : Sp := fun vs H Q _ => ∃ (p : Addr), vs = [.ref p] ∧ PurseAt H p ∧ ∀ r H', lo ≤ r → r ≤ hi → Drew p H H' → Q (.int r) H'
def spLLen : Sp := fun vs H Q _ => ∃ (p : Addr) (b : Int), vs = [.ref p, .int b] ∧ PurseAt H p ∧ 2 ≤ b ∧ b ≤ 256 ∧ ∀ r H', 0 ≤ r → r ≤ 10 ^ 60 - 1 → Drew p H H' → Q (.int r) H'
def spConst : Sp := fun vs H Q _ => ∃ (p : Addr) (m : Int), vs = [.ref p, .int m] ∧ PurseAt H p ∧ 2 ≤ m ∧ m ≤ 1000 ∧ ∀ r H', 0 ≤ r → r ≤ m → Drew p H H' → Q (.int r) H'
theorem item_int {ns : List Int} {i : Nat} {x : V} (h : (ns.map V.int)[i]? = some x) : ∃ z, x = .int z := by
  rw [List.getElem?_map] at h
  cases e : ns[i]? with
  | none =>
    rw [e] at h
    cases h
  | some z =>
    rw [e] at h
    exact ⟨z, (Option.some.inj h).symm⟩
section
variable {P : Program} {w : World} {K : PySem.W.Frag} {mg : Str → Option Value} {base : Heap}
theorem ok_L_cell (T : Tx w K mg) : Prom P w K mg base CX0 1 "_law_cell" s_L_cell ["_law_cells", "_law_k"] (spCell K) := by
  refine Prom.of T.d_L_cell sc_L_cell (fun vs H Q E h => ?_) (fun _ _ _ _ _ _ us hl => match us, hl with | [_, _], _ => rfl) (fun f cdv A outer s H vs Q E hr h => ?_)
  · obtain ⟨a, ns, n, rfl, _⟩ := h
    rfl
  · obtain ⟨a, ns, n, rfl, hS, h0, h1, k⟩ := h
    have d0 : (0 : Int) < 2147483563 := by decide
    refine ⟨_, (pss_cons (ps_if (pt_cmp (pc_lt (pv 1) (pe_callB call_len_seq (by rfl) T.b_len (by decide +kernel) (pa_cons (pv 0) pa_nil)))) (pss_one (ps_ret (pe_ix ix_list (pv 0) (pv 1) (fun _ _ => rfl)))) pss_nil)
      (pss_cons (ps_set (i := 2) sc_L_cell.nd rfl (Or.inl rfl) (pe_op op_mod (pe_callTy call_int1 (by rfl) T.b_int (by decide +kernel) (pa_cons (pe_op op_mul (pe_op op_mul (pe_op op_add (pv 1) pe_int) (pe_op op_add (pv 1) pe_int)) pe_int) pa_nil)) pe_int))
      (pss_cons (ps_for PassesOwn.never (by rfl) (pi_list (pv 0)) (pg_name (i := 3) sc_L_cell.nd rfl (Or.inl rfl)) (pss_one (ps_set (i := 2) sc_L_cell.nd rfl (Or.inl rfl) (pe_op op_mod (pe_callTy call_int1 (by rfl) T.b_int (by decide +kernel) (pa_cons (pe_op op_add (pe_op op_add (pe_op op_mul (pv 2) pe_int) (pv 3)) pe_int) pa_nil)) pe_int))))
      (pss_one (ps_ret (pe_op op_mod (pe_callTy call_int1 (by rfl) T.b_int (by decide +kernel) (pa_cons (pe_op op_add (pe_op op_mul (pv 2) pe_int) (pv 1)) pa_nil)) pe_int)))))), ?_⟩
    refine ⟨_, rfl, _, rfl, _, _, rfl, .inl hS, _, _, rfl, rfl, _, rfl, ifd (fun c => ?_) (fun c => ?_)⟩
    · rw [List.length_map] at c
      have hi : n.toNat < ns.length := by omega
      obtain ⟨z, hz⟩ : ∃ z, ns[n.toNat]? = some z := ⟨_, List.getElem?_eq_getElem hi⟩
      have ez : (ns.map V.int)[n.toNat]? = some (V.int z) := by rw [List.getElem?_map, hz]; rfl
      exact ⟨_, rfl, _, rfl, _, _, _, _, rfl, rfl, hS, at_of (show n = ((n.toNat : Nat) : Int) by omega) ez, k z⟩
    · refine ⟨_, rfl, _, _, rfl, rfl, _, rfl, _, _, rfl, rfl, _, _, rfl, rfl, .inl ⟨by omega, by omega⟩, _, _, rfl, rfl, .inr ⟨by decide, by decide⟩, .inl ⟨_, rfl, _, _, rfl, rfl, d0, ?_⟩⟩
      refine ⟨_, rfl, a, rfl, ⟨_, hS⟩, for_list (K := K) (a := a) (xs := ns.map V.int) (fun i σ H' => H' = H ∧ ∃ m v, σ = [some (.ref a), some (.int n), some (.int m), v]) ⟨rfl, _, none, rfl⟩ (fun i σ H' _ h => by rw [h.1]; exact hS) ?_ ?_⟩
      · rintro i x σ H' hi ⟨rfl, m, v, rfl⟩
        obtain ⟨z, rfl⟩ := item_int hi
        refine ⟨_, rfl, _, _, rfl, rfl, .inr ⟨by decide, by decide⟩, _, rfl, _, _, rfl, rfl, _, _, rfl, rfl, .inl ⟨_, rfl, ?_⟩⟩
        exact ⟨_, _, rfl, rfl, d0, rfl, _, _, rfl⟩
      · rintro σ H' ⟨rfl, m, v, rfl⟩
        exact ⟨_, rfl, _, _, rfl, rfl, .inr ⟨by decide, by decide⟩, _, rfl, _, _, rfl, rfl, .inl ⟨_, rfl, _, _, rfl, rfl, d0, k _⟩⟩
theorem ok_L_pool (T : Tx w K mg) : Prom P w K mg base CX0 1 "_law_pool" s_L_pool ["_law_cell_here"] spPurse := by
  refine Prom.of T.d_L_pool sc_L_pool (fun vs H Q E h => ?_) (fun _ _ _ _ _ _ us hl => match us, hl with | [_], _ => rfl) (fun f cdv A outer s H vs Q E hr h => ?_)
  · obtain ⟨c, rfl, _⟩ := h
    rfl
  · obtain ⟨c, rfl, k⟩ := h
    refine ⟨_, (pss_cons (ps_set (i := 1) sc_L_pool.nd rfl (Or.inl rfl) (pe_ifExp (PW.pt (pw_or (pt_cmp (pc_lt (pv 0) pe_int)) (pw_or1 (pt_cmp (pc_ge (pv 0) (pe_op op_pow pe_int pe_int)))))) (pe_callB call_abs (by rfl) T.b_abs (by decide +kernel) (pa_cons (pv 0) pa_nil)) pe_int))
      (pss_one (ps_ret (pe_lst (pa_cons (pv 1) (pa_cons (pe_op op_add pe_int (pe_op op_mod (pe_callTy call_int1 (by rfl) T.b_int (by decide +kernel) (pa_cons (pe_op op_add (pe_op op_mul (pv 0) pe_int) pe_int) pa_nil)) pe_int)) (pa_cons (pe_op op_add pe_int (pe_op op_mod (pe_callTy call_int1 (by rfl) T.b_int (by decide +kernel) (pa_cons (pe_op op_add (pv 0) pe_int) pa_nil)) pe_int)) pa_nil))))))), ?_⟩
    have fin : ∀ d : Int, 0 ≤ d → ∀ p, H p = none → Q (.ref p) (upd H p (.lst [.int d, .int (1 + (c * 3 + 71) % 2147483398), .int (1 + (c + 5923) % 2147483562)])) := fun d hd p hp => by
      have a1 := Int.emod_nonneg (c * 3 + 71) (show (2147483398 : Int) ≠ 0 by decide)
      have a2 := Int.emod_lt_of_pos (c * 3 + 71) (show (0 : Int) < 2147483398 by decide)
      have b1 := Int.emod_nonneg (c + 5923) (show (2147483562 : Int) ≠ 0 by decide)
      have b2 := Int.emod_lt_of_pos (c + 5923) (show (0 : Int) < 2147483562 by decide)
      exact k p _ hp (fun b o e => by rw [upd_ne (ne_of_none e hp)]; exact e) (PurseAt.of upd_same hd (by omega) (by omega) (by omega) (by omega))
    refine ⟨_, rfl, _, _, rfl, rfl, _, rfl, ifd (fun h1 => iteT ?_) (fun h1 => ?_)⟩
    · refine ⟨_, rfl, _, rfl, ?_⟩
      refine ⟨_, rfl, _, rfl, _, _, rfl, rfl, .inr ⟨by decide, by decide⟩, _, _, rfl, rfl, .inl ⟨_, rfl, _, _, rfl, rfl, (by show (0 : Int) < 2147483398; decide), _, _, rfl, rfl, ?_⟩⟩
      refine ⟨_, rfl, _, _, rfl, rfl, .inl ⟨_, rfl, _, _, rfl, rfl, (by show (0 : Int) < 2147483562; decide), _, _, rfl, rfl, (by show 3 ≤ sizeLine; decide), fun p hp => fin _ ?_ p hp⟩⟩
      split <;> omega
    refine ⟨_, rfl, _, _, rfl, rfl, ⟨by decide, by decide, by decide⟩, _, _, rfl, rfl, _, rfl, ifd (fun h2 => ?_) (fun h2 => ?_)⟩
    · refine ⟨_, rfl, _, rfl, ?_⟩
      refine ⟨_, rfl, _, rfl, _, _, rfl, rfl, .inr ⟨by decide, by decide⟩, _, _, rfl, rfl, .inl ⟨_, rfl, _, _, rfl, rfl, (by show (0 : Int) < 2147483398; decide), _, _, rfl, rfl, ?_⟩⟩
      refine ⟨_, rfl, _, _, rfl, rfl, .inl ⟨_, rfl, _, _, rfl, rfl, (by show (0 : Int) < 2147483562; decide), _, _, rfl, rfl, (by show 3 ≤ sizeLine; decide), fun p hp => fin _ ?_ p hp⟩⟩
      split <;> omega
    · refine ⟨_, rfl, ?_⟩
      refine ⟨_, rfl, _, _, rfl, rfl, .inr ⟨by decide, by decide⟩, _, _, rfl, rfl, .inl ⟨_, rfl, _, _, rfl, rfl, (by show (0 : Int) < 2147483398; decide), _, _, rfl, rfl, ?_⟩⟩
      refine ⟨_, rfl, _, _, rfl, rfl, .inl ⟨_, rfl, _, _, rfl, rfl, (by show (0 : Int) < 2147483562; decide), _, _, rfl, rfl, (by show 3 ≤ sizeLine; decide), fun p hp => fin _ (Int.le_refl 0) p hp⟩⟩
theorem ok_L_draw (T : Tx w K mg) : Prom P w K mg base CX0 1 "_law_draw" s_L_draw ["_law_pool_here", "_law_many"] spTake := by
  refine Prom.of T.d_L_draw sc_L_draw (fun vs H Q E h => ?_) (fun _ _ _ _ _ _ us hl => match us, hl with | [_, _], _ => rfl) (fun f cdv A outer s H vs Q E hr h => ?_)
  · obtain ⟨p, n, rfl, _⟩ := h
    rfl
  · obtain ⟨p, n, rfl, ⟨d, x, y, hp, h0, h1, h2, h3, h4⟩, hn, hn2, k⟩ := h
    refine ⟨_, (pss_cons (ps_if (pt_cmp (pc_gt (pe_ix ix_list (pv 0) pe_int (fun _ _ => rfl)) pe_int)) (pss_cons (ps_asg (pe_callB call_divmodW (by rfl) T.b_divmod (by decide +kernel) (pa_cons (pe_ix ix_list (pv 0) pe_int (fun _ _ => rfl)) (pa_cons (pv 1) pa_nil))) (pg_tup rfl (pgs_cons (pg_sub (pv 0) pe_int set_list) (pgs_cons (pg_name (i := 2) sc_L_draw.nd rfl (Or.inl rfl)) pgs_nil))))
      (pss_one (ps_ret (pv 2)))) pss_nil)
      (pss_cons (ps_asg (pe_op op_mod (pe_callTy call_int1 (by rfl) T.b_int (by decide +kernel) (pa_cons (pe_op op_mul (pe_ix ix_list (pv 0) pe_int (fun _ _ => rfl)) pe_int) pa_nil)) pe_int) (pg_sub (pv 0) pe_int set_list))
      (pss_cons (ps_asg (pe_op op_mod (pe_callTy call_int1 (by rfl) T.b_int (by decide +kernel) (pa_cons (pe_op op_mul (pe_ix ix_list (pv 0) pe_int (fun _ _ => rfl)) pe_int) pa_nil)) pe_int) (pg_sub (pv 0) pe_int set_list))
      (pss_one (ps_ret (pe_op op_mod (pe_callTy call_int1 (by rfl) T.b_int (by decide +kernel) (pa_cons (pe_op op_fdiv (pe_op op_add (pe_ix ix_list (pv 0) pe_int (fun _ _ => rfl)) (pe_ix ix_list (pv 0) pe_int (fun _ _ => rfl))) pe_int) pa_nil)) (pv 1))))))), ?_⟩
    refine ⟨_, rfl, _, _, _, _, rfl, rfl, SqL.of hp, rfl, _, _, rfl, rfl, _, rfl, ifd (fun c1 => ?_) (fun c1 => ?_)⟩
    · have c1 : d > 0 := c1
      refine ⟨_, rfl, _, _, _, _, rfl, rfl, SqL.of hp, rfl, _, rfl, _, _, rfl, divp_small hn hn2, fun q hq => ?_⟩
      have nq : p ≠ q := ne_of_none hp hq
      refine ⟨q, _, rfl, SqT.of upd_same, rfl, _, _, rfl, ?_⟩
      refine ⟨_, rfl, _, _, _, _, rfl, rfl, (by rw [upd_ne nq]; exact hp), rfl, ?_⟩
      refine ⟨_, _, rfl, rfl, ?_⟩
      refine ⟨_, rfl, k _ _ (Int.emod_nonneg _ (by omega)) (Int.emod_lt_of_pos _ hn) ⟨PurseAt.of upd_same (Int.ediv_nonneg (by omega) (by omega)) h1 h2 h3 h4, ?_⟩⟩
      exact Kp.set (Kp.new (Kp.refl p H) hq)
    · refine ⟨_, rfl, _, _, _, _, rfl, rfl, SqL.of hp, rfl, _, _, rfl, rfl, .inr ⟨by decide, by decide⟩, .inl ⟨_, rfl, _, _, rfl, rfl, (by show (0 : Int) < 2147483399; decide), ?_⟩⟩
      refine ⟨_, rfl, _, _, _, _, rfl, rfl, hp, rfl, ?_⟩
      have a1 := Int.emod_nonneg (x * 40692) (show (2147483399 : Int) ≠ 0 by decide)
      have a2 := Int.emod_lt_of_pos (x * 40692) (show (0 : Int) < 2147483399 by decide)
      have e1 : (upd H p (.lst ([V.int d, V.int x, V.int y].set 1 (V.int (x * 40692 % 2147483399))))) p = some (.lst [.int d, .int (x * 40692 % 2147483399), .int y]) := upd_same
      refine ⟨_, rfl, _, _, _, _, rfl, rfl, SqL.of e1, rfl, _, _, rfl, rfl, .inr ⟨by decide, by decide⟩, .inl ⟨_, rfl, _, _, rfl, rfl, (by show (0 : Int) < 2147483563; decide), ?_⟩⟩
      refine ⟨_, rfl, _, _, _, _, rfl, rfl, e1, rfl, ?_⟩
      have b1 := Int.emod_nonneg (y * 40014) (show (2147483563 : Int) ≠ 0 by decide)
      have b2 := Int.emod_lt_of_pos (y * 40014) (show (0 : Int) < 2147483563 by decide)
      have e2 : (upd (upd H p (.lst ([V.int d, V.int x, V.int y].set 1 (V.int (x * 40692 % 2147483399))))) p (.lst ([V.int d, V.int (x * 40692 % 2147483399), V.int y].set 2 (V.int (y * 40014 % 2147483563))))) p = some (.lst [.int d, .int (x * 40692 % 2147483399), .int (y * 40014 % 2147483563)]) := upd_same
      refine ⟨_, rfl, _, _, _, _, rfl, rfl, SqL.of e2, rfl, _, rfl, _, _, _, _, rfl, rfl, SqL.of e2, rfl, _, _, rfl, rfl, _, _, rfl, rfl, ⟨by decide, by decide⟩, .inl ⟨_, rfl, _, rfl, _, _, rfl, rfl, hn, ?_⟩⟩
      exact k _ _ (Int.emod_nonneg _ (by omega)) (Int.emod_lt_of_pos _ hn) ⟨PurseAt.of e2 h0 a1 (by omega) b1 (by omega), Kp.set (Kp.set (Kp.refl p H))⟩
end
section
variable {P : Program} {w : World} {K : PySem.W.Frag} {mg : Str → Option Value} {base : Heap}
theorem ok_L_far (T : Tx w K mg) : Prom P w K mg base CX0 2 "_law_far" s_L_far ["_law_pool_here"] (spDraw 0 (10 ^ 60 - 1)) := by
  refine Prom.of T.d_L_far sc_L_far (fun vs H Q E h => ?_) (fun _ _ _ _ _ _ us hl => match us, hl with | [_], _ => rfl) (fun f cdv A outer s H vs Q E hr h => ?_)
  · obtain ⟨p, rfl, _⟩ := h
    rfl
  · obtain ⟨p, rfl, hp, k⟩ := h
    refine ⟨_, (pss_cons (ps_par (i := 1) (j := 2) (by rfl) sc_L_far.nd rfl rfl (by decide) rfl rfl (pa_cons (pe_callP (ok_L_draw T) (hr.mono (by decide)) (by rfl) pass0 (pa_cons (pv 0) (pa_cons pe_int pa_nil))) (pa_cons pe_int pa_nil)) (by rfl))
      (pss_cons (ps_for PassesOwn.never (by rfl) (pi_range1 (by rfl) T.b_range (pa_cons pe_int pa_nil)) (pg_name (i := 3) sc_L_far.nd rfl (Or.inl rfl)) (pss_one (ps_set (i := 2) sc_L_far.nd rfl (Or.inl rfl) (pe_op op_add (pe_op op_mul (pv 2) (pe_op op_pow pe_int pe_int)) (pe_callP (ok_L_draw T) (hr.mono (by decide)) (by rfl) pass0 (pa_cons (pv 0) (pa_cons (pe_op op_pow pe_int pe_int) pa_nil)))))))
      (pss_one (ps_ret (pe_op op_fdivW (pv 2) (pe_ix ix_list (pe_lst (pa_cons pe_int (pa_cons (pe_op op_pow pe_int pe_int) (pa_cons (pe_op op_pow pe_int pe_int) (pa_cons (pe_op op_pow pe_int pe_int) (pa_cons (pe_op op_pow pe_int pe_int) pa_nil)))))) (pv 1) (fun _ _ => rfl))))))), ?_⟩
    refine ⟨_, rfl, p, _, rfl, hp, by decide, by decide, fun r H1 r0 r1 d1 => ⟨_, _, rfl, ?_⟩⟩
    refine ⟨10, rfl, by decide, by decide, for_range (lo := 0) (n := 10) (fun i σ H' => Drew p H H' ∧ ∃ (m : Int) (v : Option V), 0 ≤ m ∧ m < 10 ^ (6 * i) ∧ σ = [some (.ref p), some (.int r), some (.int m), v]) ⟨d1, 0, none, by decide, by decide, rfl⟩ ?_ ?_⟩
    · rintro i σ H' hi ⟨hd, m, v, m0, m1, rfl⟩
      refine ⟨_, rfl, _, _, rfl, rfl, ⟨by decide, by decide, by decide⟩, _, _, rfl, rfl, .inr ⟨by decide, by decide⟩, ?_⟩
      refine ⟨_, rfl, _, _, rfl, rfl, ⟨by decide, by decide, by decide⟩, p, _, rfl, hd.at_, by decide, by decide, fun y H2 y0 y1 d2 => ⟨_, _, rfl, rfl, ?_⟩⟩
      have e6 : (10 : Int) ^ (6 : Int).toNat = 1000000 := by decide
      have y1 : y < 1000000 := by rw [e6] at y1; exact y1
      have e : (10 : Int) ^ (6 * (i + 1)) = 10 ^ (6 * i) * 1000000 := by rw [Nat.mul_add, Int.pow_add]; rfl
      refine ⟨hd.trans d2, m * 10 ^ (6 : Int).toNat + y, _, ?_, ?_, rfl⟩
      · rw [e6]
        omega
      · rw [e6, e]
        omega
    · rintro σ H' ⟨hd, m, v, m0, m1, rfl⟩
      have m1 : m < 10 ^ 60 := m1
      refine ⟨_, rfl, _, _, rfl, rfl, ⟨by decide, by decide, by decide⟩, _, _, rfl, rfl, ⟨by decide, by decide, by decide⟩, _, _, rfl, rfl, ⟨by decide, by decide, by decide⟩, _, _, rfl, rfl, ⟨by decide, by decide, by decide⟩, (by show 5 ≤ sizeLine; decide), fun l hl => ?_⟩
      have d2 := hd.new (o := .lst [.int 1, .int (10 ^ (13 : Int).toNat), .int (10 ^ (30 : Int).toNat), .int (10 ^ (44 : Int).toNat), .int (10 ^ (52 : Int).toNat)]) hl
      obtain ⟨c, hc, c0, c1⟩ : ∃ c : Int, [V.int 1, V.int (10 ^ (13 : Int).toNat), V.int (10 ^ (30 : Int).toNat), V.int (10 ^ (44 : Int).toNat), V.int (10 ^ (52 : Int).toNat)][r.toNat]? = some (.int c) ∧ 0 < c ∧ c.natAbs < 2 ^ 200 := by
        have r5 : r = 0 ∨ r = 1 ∨ r = 2 ∨ r = 3 ∨ r = 4 := by omega
        rcases r5 with rfl | rfl | rfl | rfl | rfl
        · exact ⟨_, rfl, by decide, by decide⟩
        · exact ⟨_, rfl, by decide, by decide⟩
        · exact ⟨_, rfl, by decide, by decide⟩
        · exact ⟨_, rfl, by decide, by decide⟩
        · exact ⟨_, rfl, by decide, by decide⟩
      refine ⟨_, rfl, l, _, _, _, rfl, rfl, SqL.of upd_same, at_of (show r = ((r.toNat : Nat) : Int) by omega) hc, _, _, rfl, rfl, wide_div (b := 200) c0 c1 (by decide) (by decide), ?_⟩
      have q0 := Int.ediv_nonneg m0 (show 0 ≤ c by omega)
      have q1 := Int.ediv_le_self c m0
      exact k _ _ q0 (by omega) d2
theorem ok_L_radix (T : Tx w K mg) : Prom P w K mg base CX0 2 "_law_radix" s_L_radix ["_law_pool_here"] (spDraw 2 256) := by
  refine Prom.of T.d_L_radix sc_L_radix (fun vs H Q E h => ?_) (fun _ _ _ _ _ _ us hl => match us, hl with | [_], _ => rfl) (fun f cdv A outer s H vs Q E hr h => ?_)
  · obtain ⟨p, rfl, _⟩ := h
    rfl
  · obtain ⟨p, rfl, hp, k⟩ := h
    refine ⟨_, (pss_cons (ps_set (i := 1) sc_L_radix.nd rfl (Or.inl rfl) (pe_callP (ok_L_draw T) (hr.mono (by decide)) (by rfl) pass0 (pa_cons (pv 0) (pa_cons pe_int pa_nil))))
      (pss_cons (ps_if (pt_cmp (pc_eqI (pv 1) pe_int)) (pss_one (ps_ret (pe_op op_add pe_int (pe_callP (ok_L_draw T) (hr.mono (by decide)) (by rfl) pass0 (pa_cons (pv 0) (pa_cons pe_int pa_nil)))))) pss_nil)
      (pss_one (ps_ret (pe_ifExp (pt_cmp (pc_eqI (pv 1) pe_int)) pe_int (pe_op op_add pe_int (pe_callP (ok_L_draw T) (hr.mono (by decide)) (by rfl) pass0 (pa_cons (pv 0) (pa_cons pe_int pa_nil))))))))), ?_⟩
    refine ⟨_, rfl, p, _, rfl, hp, by decide, by decide, fun r H2 r0 r1 d2 => ?_⟩
    refine ⟨_, rfl, _, _, rfl, rfl, _, rfl, ifd (fun c => ?_) (fun c => ?_)⟩
    · exact ⟨_, rfl, p, _, rfl, d2.at_, by decide, by decide, fun r' H3 r0' r1' d3 => ⟨_, _, rfl, rfl, k _ _ (by omega) (by omega) (d2.trans d3)⟩⟩
    · refine ⟨_, rfl, _, _, rfl, rfl, _, rfl, ifd (fun c => ?_) (fun c => ?_)⟩
      · exact k _ _ (by decide) (by decide) d2
      · exact ⟨_, rfl, p, _, rfl, d2.at_, by decide, by decide, fun r' H3 r0' r1' d3 => ⟨_, _, rfl, rfl, k _ _ (by omega) (by omega) (d2.trans d3)⟩⟩
theorem ok_L_length (T : Tx w K mg) : Prom P w K mg base CX0 3 "_law_length" s_L_length ["_law_pool_here", "_law_b"] spLLen := by
  refine Prom.of T.d_L_length sc_L_length (fun vs H Q E h => ?_) (fun _ _ _ _ _ _ us hl => match us, hl with | [_, _], _ => rfl) (fun f cdv A outer s H vs Q E hr h => ?_)
  · obtain ⟨p, b, rfl, _⟩ := h
    rfl
  · obtain ⟨p, b, rfl, hp, b0, b1, k⟩ := h
    refine ⟨_, (pss_cons (ps_set (i := 2) sc_L_length.nd rfl (Or.inl rfl) (pe_callP (ok_L_draw T) (hr.mono (by decide)) (by rfl) pass0 (pa_cons (pv 0) (pa_cons pe_int pa_nil))))
      (pss_cons (ps_if (pt_cmp (pc_lt (pv 2) pe_int)) (pss_one (ps_ret (pe_callP (ok_L_draw T) (hr.mono (by decide)) (by rfl) pass0 (pa_cons (pv 0) (pa_cons (pe_ix ix_list (pe_lst (pa_cons pe_int (pa_cons pe_int pa_nil))) (pv 2) (fun _ _ => rfl)) pa_nil))))) pss_nil)
      (pss_cons (ps_if (pt_cmp (pc_eqI (pv 2) pe_int)) (pss_one (ps_ret (pe_op op_sub (pe_op op_sub (pe_op op_pow pe_int pe_int) pe_int) (pe_callP (ok_L_draw T) (hr.mono (by decide)) (by rfl) pass0 (pa_cons (pv 0) (pa_cons pe_int pa_nil)))))) pss_nil)
      (pss_cons (ps_if (pt_cmp (pc_eqI (pv 2) pe_int)) (pss_one (ps_ret (pe_callP (ok_L_far T) (hr.mono (by decide)) (by rfl) pass0 (pa_cons (pv 0) pa_nil)))) pss_nil)
      (pss_cons (ps_set (i := 3) sc_L_length.nd rfl (Or.inl rfl) pe_int)
      (pss_cons (ps_for PassesOwn.never (by rfl) (pi_range1 (by rfl) T.b_range (pa_cons (pe_op op_add pe_int (pe_callP (ok_L_draw T) (hr.mono (by decide)) (by rfl) pass0 (pa_cons (pv 0) (pa_cons pe_int pa_nil)))) pa_nil)) (pg_name (i := 4) sc_L_length.nd rfl (Or.inl rfl)) (pss_one (ps_set (i := 3) sc_L_length.nd rfl (Or.inl rfl) (pe_ifExp (pt_cmp (pc_lt (pe_op op_mul (pv 3) (pv 1)) (pe_op op_pow pe_int pe_int))) (pe_op op_mul (pv 3) (pv 1)) (pv 3)))))
      (pss_one (ps_ret (pe_callB (call_max2 rfl) (by rfl) T.b_max (by decide +kernel) (pa_cons pe_int (pa_cons (pe_op op_sub (pe_op op_add (pv 3) (pe_callP (ok_L_draw T) (hr.mono (by decide)) (by rfl) pass0 (pa_cons (pv 0) (pa_cons pe_int pa_nil)))) pe_int) pa_nil))))))))))), ?_⟩
    refine ⟨_, rfl, p, _, rfl, hp, by decide, by decide, fun r H2 r0 r1 d2 => ?_⟩
    refine ⟨_, rfl, _, _, rfl, rfl, _, rfl, ifd (fun c => ?_) (fun c => ?_)⟩
    · have c : r < 2 := c
      refine ⟨_, rfl, (by show 2 ≤ sizeLine; decide), fun l hl => ?_⟩
      have d3 := d2.new (o := .lst [.int 70, .int 3000]) hl
      obtain ⟨y, hy, y0, y1⟩ : ∃ y : Int, [V.int 70, V.int 3000][r.toNat]? = some (.int y) ∧ 0 < y ∧ y ≤ 3000 := by
        have r5 : r = 0 ∨ r = 1 := by omega
        rcases r5 with rfl | rfl
        · exact ⟨_, rfl, by decide, by decide⟩
        · exact ⟨_, rfl, by decide, by decide⟩
      refine ⟨_, rfl, l, _, _, _, rfl, rfl, SqL.of upd_same, at_of (show r = ((r.toNat : Nat) : Int) by omega) hy, p, y, rfl, d3.at_, y0, by omega, fun z H3 z0 z1 d4 => ?_⟩
      exact k _ _ z0 (Int.le_trans (show z ≤ 3000 by omega) (by decide)) (d3.trans d4)
    · refine ⟨_, rfl, _, _, rfl, rfl, _, rfl, ifd (fun c2 => ?_) (fun c2 => ?_)⟩
      · refine ⟨_, _, rfl, rfl, ⟨by decide, by decide, by decide⟩, _, _, rfl, rfl, _, rfl, p, _, rfl, d2.at_, by decide, by decide, fun z H3 z0 z1 d4 => ⟨_, _, rfl, rfl, ?_⟩⟩
        have e : (10 : Int) ^ (60 : Int).toNat = 10 ^ 60 := rfl
        exact k _ _ (by rw [e]; omega) (by rw [e]; omega) (d2.trans d4)
      · refine ⟨_, rfl, _, _, rfl, rfl, _, rfl, ifd (fun c3 => ?_) (fun c3 => ?_)⟩
        · exact ⟨_, rfl, p, rfl, d2.at_, fun z H3 z0 z1 d4 => k _ _ z0 z1 (d2.trans d4)⟩
        · refine ⟨_, rfl, p, _, rfl, d2.at_, by decide, by decide, fun t H3 t0 t1 d3 => ⟨_, _, rfl, rfl, ?_⟩⟩
          have d3 := d2.trans d3
          refine ⟨_, rfl, by omega, by omega, for_range (lo := 0) (fun i σ H' => H' = H3 ∧ ∃ (m : Int) (v : Option V), 1 ≤ m ∧ m < 10 ^ 59 ∧ σ = [some (.ref p), some (.int b), some (.int r), some (.int m), v]) ⟨rfl, 1, none, by decide, by decide, rfl⟩ ?_ ?_⟩
          · rintro i σ H' hi ⟨rfl, m, v, m0, m1, rfl⟩
            refine ⟨_, rfl, _, rfl, _, _, rfl, rfl, .inr ⟨by omega, by omega⟩, _, _, rfl, rfl, ⟨by decide, by decide, by decide⟩, _, _, rfl, rfl, _, rfl, ifd (fun c => ?_) (fun c => ?_)⟩
            · have c : m * b < 10 ^ 59 := c
              refine ⟨_, rfl, _, rfl, _, _, rfl, rfl, .inr ⟨by omega, by omega⟩, rfl, m * b, _, ?_, c, rfl⟩
              have := Int.mul_le_mul m0 (show 1 ≤ b by omega) (by decide) (by omega)
              omega
            · exact ⟨_, rfl, rfl, m, _, m0, m1, rfl⟩
          · rintro σ H' ⟨rfl, m, v, m0, m1, rfl⟩
            refine ⟨_, rfl, _, rfl, p, _, rfl, d3.at_, by decide, by decide, fun z H4 z0 z1 d4 => ⟨_, _, rfl, rfl, _, _, rfl, rfl, _, _, rfl, ?_⟩⟩
            refine k _ _ ?_ ?_ (d3.trans d4)
            · split <;> omega
            · have e : (10 : Int) ^ 60 = 10 * 10 ^ 59 := by decide
              rw [e]
              split <;> omega
theorem ok_L_constant (T : Tx w K mg) : Prom P w K mg base CX0 2 "_law_constant" s_L_constant ["_law_pool_here", "_law_most"] spConst := by
  refine Prom.of T.d_L_constant sc_L_constant (fun vs H Q E h => ?_) (fun _ _ _ _ _ _ us hl => match us, hl with | [_, _], _ => rfl) (fun f cdv A outer s H vs Q E hr h => ?_)
  · obtain ⟨p, m, rfl, _⟩ := h
    rfl
  · obtain ⟨p, m, rfl, hp, m0, m1, k⟩ := h
    refine ⟨_, (pss_cons (ps_set (i := 2) sc_L_constant.nd rfl (Or.inl rfl) (pe_callP (ok_L_draw T) (hr.mono (by decide)) (by rfl) pass0 (pa_cons (pv 0) (pa_cons pe_int pa_nil))))
      (pss_cons (ps_if (pt_cmp (pc_eqI (pv 2) pe_int)) (pss_one (ps_ret (pe_callP (ok_L_draw T) (hr.mono (by decide)) (by rfl) pass0 (pa_cons (pv 0) (pa_cons pe_int pa_nil))))) pss_nil)
      (pss_one (ps_ret (pe_ifExp (pt_cmp (pc_eqI (pv 2) pe_int)) (pe_op op_sub (pv 1) (pe_callP (ok_L_draw T) (hr.mono (by decide)) (by rfl) pass0 (pa_cons (pv 0) (pa_cons pe_int pa_nil)))) (pe_callP (ok_L_draw T) (hr.mono (by decide)) (by rfl) pass0 (pa_cons (pv 0) (pa_cons (pe_op op_add (pv 1) pe_int) pa_nil)))))))), ?_⟩
    refine ⟨_, rfl, p, _, rfl, hp, by decide, by decide, fun r H2 r0 r1 d2 => ?_⟩
    refine ⟨_, rfl, _, _, rfl, rfl, _, rfl, ifd (fun c => ?_) (fun c => ?_)⟩
    · exact ⟨_, rfl, p, _, rfl, d2.at_, by decide, by decide, fun z H3 z0 z1 d4 => k _ _ z0 (by omega) (d2.trans d4)⟩
    · refine ⟨_, rfl, _, _, rfl, rfl, _, rfl, ifd (fun c => ?_) (fun c => ?_)⟩
      · exact ⟨_, rfl, _, rfl, p, _, rfl, d2.at_, by decide, by decide, fun z H3 z0 z1 d4 => ⟨_, _, rfl, rfl, k _ _ (by omega) (by omega) (d2.trans d4)⟩⟩
      · exact ⟨_, rfl, _, rfl, _, _, rfl, rfl, p, m + 1, rfl, d2.at_, by omega, by omega, fun z H3 z0 z1 d4 => k _ _ z0 (by omega) (d2.trans d4)⟩
end
theorem fig_div {b n : Int} {j : Nat} (hb : 2 ≤ b) (h : b ^ j ≤ n) : figF b n = figF b (n / b ^ j) + j := by
  have pj := pow_pos (show 1 ≤ b by omega) j
  obtain ⟨i, e, h1, h2⟩ := figF_is (b := b) (n := n / b ^ j) hb
  refine (figF_eq hb (n := n) (k := figF b (n / b ^ j) + j) ⟨i + j, by omega, ?_, .inr ?_⟩).symm
  · have z := (Int.ediv_lt_iff_lt_mul (by omega)).mp h1
    have e2 : b ^ (i + j + 1) = b ^ (i + 1) * b ^ j := by rw [← Int.pow_add]; congr 1; omega
    rw [e2]
    exact z
  · rw [Int.pow_add]
    rcases h2 with h2 | h2
    · rw [h2, Int.pow_zero, Int.one_mul]
      exact h
    · exact (Int.le_ediv_iff_mul_le (by omega)).mp h2
theorem fig_one {b n : Int} (hb : 2 ≤ b) (h : n < b) : figF b n = 1 := (figF_eq hb (n := n) (k := 1) ⟨0, rfl, by rw [pow_one]; exact h, .inl rfl⟩).symm
def spLFigs : Sp := fun vs H Q _ => ∃ n b : Int, vs = [.int n, .int b] ∧ 2 ≤ b ∧ b ≤ 256 ∧ 0 ≤ n ∧ Q (.int (figF b n)) H
section
variable {P : Program} {w : World} {K : PySem.W.Frag} {mg : Str → Option Value} {base : Heap}
theorem ok_L_figures (T : Tx w K mg) : Prom P w K mg base CX0 1 "_law_figures" s_L_figures ["_law_n", "_law_b"] spLFigs := by
  refine Prom.of T.d_L_figures sc_L_figures (fun vs H Q E h => ?_) (fun _ _ _ _ _ _ us hl => match us, hl with | [_, _], _ => rfl) (fun f cdv A outer s H vs Q E hr h => ?_)
  · obtain ⟨n, b, rfl, _⟩ := h
    rfl
  · obtain ⟨n, b, rfl, hb, hb2, n0, k⟩ := h
    have p16 := pow_lt hb 0
    have g16 : ∀ m : Nat, b ^ m ≤ 256 ^ m := fun m => by
      induction m with
      | zero => rw [Int.pow_zero, Int.pow_zero]; exact Int.le_refl _
      | succ m ih =>
        rw [Int.pow_succ, Int.pow_succ]
        exact Int.mul_le_mul ih hb2 (by omega) (Int.le_of_lt (Int.lt_of_lt_of_le (by decide) (pow_pos (show (1 : Int) ≤ 256 by decide) m)))
    have f0 : b ^ 1 ≤ b ^ 16 := pow_mono (by omega) (by decide)
    have f1 : b ^ 1 = b := pow_one b
    have f2 := g16 16
    have f3 : (b ^ 16).natAbs < 2 ^ 130 := by
      have : (b ^ 16).natAbs ≤ 256 ^ 16 := by
        have e : (256 : Int) ^ 16 = ((256 ^ 16 : Nat) : Int) := by decide
        rw [e] at f2
        omega
      exact Nat.lt_of_le_of_lt this (by decide)
    refine ⟨_, (pss_cons (ps_par (i := 2) (j := 3) (by rfl) sc_L_figures.nd rfl rfl (by decide) rfl rfl (pa_cons (pe_op op_pow (pv 1) pe_int) (pa_cons pe_int pa_nil)) (by rfl))
      (pss_cons (ps_while PassesOwn.never (pt_cmp (pc_ge (pv 0) (pv 2))) (pss_one (ps_par (i := 0) (j := 3) (by rfl) sc_L_figures.nd rfl rfl (by decide) rfl rfl (pa_cons (pe_op op_fdivW (pv 0) (pv 2)) (pa_cons (pe_op op_add (pv 3) pe_int) pa_nil)) (by rfl))))
      (pss_cons (ps_while PassesOwn.never (pt_cmp (pc_ge (pv 0) (pv 1))) (pss_one (ps_par (i := 0) (j := 3) (by rfl) sc_L_figures.nd rfl rfl (by decide) rfl rfl (pa_cons (pe_op op_fdivW (pv 0) (pv 1)) (pa_cons (pe_op op_add (pv 3) pe_int) pa_nil)) (by rfl))))
      (pss_one (ps_ret (pv 3)))))), ?_⟩
    refine ⟨_, rfl, _, _, rfl, rfl, ⟨by decide, by decide, ?_⟩, _, _, rfl, ?_⟩
    · show b.natAbs < 2 ^ 64
      omega
    refine ⟨fun m σ H2 => H2 = H ∧ ∃ (y c : Int), σ = [some (.int y), some (.int b), some (.int (b ^ 16)), some (.int c)] ∧ 0 ≤ y ∧ figF b n = figF b y + c - 1 ∧ m = y.toNat, ⟨_, rfl, n, 1, rfl, n0, by omega, rfl⟩, ?_⟩
    rintro m σ H2 ⟨rfl, y, c, rfl, y0, ey, rfl⟩
    refine ⟨_, rfl, _, rfl, _, _, rfl, rfl, _, rfl, ifd (fun z => ?_) (fun z => ?_)⟩
    · have z : y ≥ b ^ 16 := z
      refine ⟨_, fun σ' H' h => h, ?_⟩
      refine ⟨_, rfl, _, rfl, _, _, rfl, rfl, wide_div (b := 130) (by omega) f3 (by decide) (by decide), _, rfl, _, _, rfl, rfl, _, _, rfl, ?_⟩
      have q0 := Int.ediv_nonneg y0 (show 0 ≤ b ^ 16 by omega)
      have q1 : y / b ^ 16 < y := Int.ediv_lt_of_lt_mul (by omega) (by
        have := Int.mul_le_mul_of_nonneg_left (show 2 ≤ b ^ 16 by omega) y0
        omega)
      refine ⟨_, ?_, rfl, y / b ^ 16, c + 16, rfl, q0, ?_, rfl⟩
      · omega
      · rw [ey, fig_div hb z]
        omega
    · refine ⟨fun m σ H3 => H3 = H2 ∧ ∃ (y c : Int), σ = [some (.int y), some (.int b), some (.int (b ^ 16)), some (.int c)] ∧ 0 ≤ y ∧ figF b n = figF b y + c - 1 ∧ m = y.toNat, ⟨_, rfl, y, c, rfl, y0, ey, rfl⟩, ?_⟩
      clear z ey y0
      rintro m σ H3 ⟨rfl, y, c, rfl, y0, ey, rfl⟩
      refine ⟨_, rfl, _, rfl, _, _, rfl, rfl, _, rfl, ifd (fun z => ?_) (fun z => ?_)⟩
      · have z : y ≥ b := z
        refine ⟨_, fun σ' H' h => h, ?_⟩
        refine ⟨_, rfl, _, rfl, _, _, rfl, rfl, wide_div (b := 10) (by omega) (by omega) (by decide) (by decide), _, rfl, _, _, rfl, rfl, _, _, rfl, ?_⟩
        have q0 := Int.ediv_nonneg y0 (show 0 ≤ b by omega)
        have q1 : y / b < y := Int.ediv_lt_of_lt_mul (by omega) (by
          have := Int.mul_le_mul_of_nonneg_left (show 2 ≤ b by omega) y0
          omega)
        refine ⟨_, ?_, rfl, y / b, c + 1, rfl, q0, ?_, rfl⟩
        · omega
        · have := fig_div (j := 1) hb (show b ^ 1 ≤ y by omega)
          rw [f1] at this
          rw [ey, this]
          omega
      · have z : ¬ y ≥ b := z
        have := fig_one hb (show y < b by omega)
        rw [this] at ey
        have e : c = figF b n := by omega
        rw [← e] at k
        exact ⟨_, rfl, k⟩
end
/-! ### the law's own tags: a kind and its numbers -/
def TagAt (H : Hp) (p : Addr) (a : Wr) : Prop := H p = some (.tup (.str a.kind :: a.nums.map V.int))
inductive TagsAt (H : Hp) : List V → List Wr → Prop where
  | nil : TagsAt H [] []
  | cons {p : Addr} {a : Wr} {xs : List V} {ws : List Wr} (h : TagAt H p a) (r : TagsAt H xs ws) : TagsAt H (.ref p :: xs) (a :: ws)
theorem TagsAt.len {H : Hp} {xs : List V} {ws : List Wr} (h : TagsAt H xs ws) : xs.length = ws.length := by
  induction h with
  | nil => rfl
  | cons _ _ ih => exact congrArg (· + 1) ih
theorem TagsAt.get {H : Hp} {xs : List V} {ws : List Wr} (h : TagsAt H xs ws) : ∀ {i : Nat} {x : V}, xs[i]? = some x → ∃ (p : Addr) (a : Wr), x = .ref p ∧ ws[i]? = some a ∧ TagAt H p a := by
  induction h with
  | nil =>
    intro i x e
    simp at e
  | cons h _ ih =>
    intro i x e
    cases i with
    | zero =>
      simp at e
      exact ⟨_, _, e.symm, rfl, h⟩
    | succ i => exact ih (by simpa using e)
theorem TagsAt.same {H H' : Hp} {xs : List V} {ws : List Wr} (h : TagsAt H xs ws) (s : Same H H') : TagsAt H' xs ws := by
  induction h with
  | nil => exact .nil
  | cons h _ ih => exact .cons (s _ _ h) ih
theorem TagsAt.snoc {H : Hp} {xs : List V} {ws : List Wr} {p : Addr} {a : Wr} (h : TagsAt H xs ws) (hx : TagAt H p a) : TagsAt H (xs ++ [.ref p]) (ws ++ [a]) := by
  induction h with
  | nil => exact .cons hx .nil
  | cons h _ ih => exact .cons h ih
theorem TagsAt.dropLast {H : Hp} {xs : List V} {ws : List Wr} (h : TagsAt H xs ws) : TagsAt H xs.dropLast ws.dropLast := by
  induction h with
  | nil => exact .nil
  | cons h r ih =>
    cases r with
    | nil => exact .nil
    | cons h2 r2 => exact .cons h ih
theorem TagsAt.put {H : Hp} {l : Addr} {xs : List V} {ys zs : List V} {ws : List Wr} (h : TagsAt H xs ws) (hl : H l = some (.lst ys)) : TagsAt (upd H l (.lst zs)) xs ws := by
  induction h with
  | nil => exact .nil
  | @cons q a xs ws h _ ih =>
    refine .cons ?_ ih
    have h : H q = _ := h
    show (upd H l _) q = _
    rw [upd_ne (fun z => by rw [z, hl] at h; cases h)]
    exact h
theorem Drew.tag {p q : Addr} {H H1 : Hp} {a : Wr} (d : Drew p H H1) (hp : PurseAt H p) (h : TagAt H q a) : TagAt H1 q a := d.keep hp h (fun _ z => by cases z)
theorem Drew.tags {p : Addr} {H H1 : Hp} {xs : List V} {ws : List Wr} (d : Drew p H H1) (hp : PurseAt H p) (h : TagsAt H xs ws) : TagsAt H1 xs ws := by
  induction h with
  | nil => exact .nil
  | cons h _ ih => exact .cons (d.tag hp h) ih
def spLOver : Sp := fun vs H Q _ => ∃ (p : Addr) (a : Wr) (n b : Int), vs = [.ref p, .int n, .int b] ∧ TagAt H p a ∧ a.ok ∧ 2 ≤ b ∧ b ≤ 256 ∧ 0 ≤ n ∧ ∀ H', Same H H' → Q (.int (a.gr b n)) H'
section
variable {P : Program} {w : World} {K : PySem.W.Frag} {mg : Str → Option Value} {base : Heap}
theorem ok_L_over (T : Tx w K mg) : Prom P w K mg base CX0 2 "_law_over" s_L_over ["_law_tag", "_law_n", "_law_b"] spLOver := by
  refine Prom.of T.d_L_over sc_L_over (fun vs H Q E h => ?_) (fun _ _ _ _ _ _ us hl => match us, hl with | [_, _, _], _ => rfl) (fun f cdv A outer s H vs Q E hr h => ?_)
  · obtain ⟨p, a, n, b, rfl, _⟩ := h
    rfl
  · obtain ⟨p, a, n, b, rfl, hp, ha, b0, b1, n0, k⟩ := h
    have hp : H p = _ := hp
    have k0 := k H (Same.refl H)
    refine ⟨_, (pss_cons (ps_if (pt_cmpR op_eq (pe_ix ix_tup (pv 0) pe_int (fun _ _ => rfl)) pe_str (nomark _)) (pss_one (ps_ret (pe_op op_add (pv 1) (pe_ix ix_tup (pv 0) pe_int (fun _ _ => rfl))))) pss_nil)
      (pss_cons (ps_if (pt_cmpR op_eq (pe_ix ix_tup (pv 0) pe_int (fun _ _ => rfl)) pe_str (nomark _)) (pss_one (ps_ret (pe_op op_add (pe_op op_add (pv 1) (pe_ix ix_tup (pv 0) pe_int (fun _ _ => rfl))) (pe_callP (ok_L_figures T) (hr.mono (by decide)) (by rfl) pass0 (pa_cons (pv 1) (pa_cons (pv 2) pa_nil)))))) pss_nil)
      (pss_cons (ps_if (pt_cmpR op_eq (pe_ix ix_tup (pv 0) pe_int (fun _ _ => rfl)) pe_str (nomark _)) (pss_cons (ps_set (i := 3) sc_L_over.nd rfl (Or.inl rfl) (pe_callP (ok_L_figures T) (hr.mono (by decide)) (by rfl) pass0 (pa_cons (pe_op op_add (pv 1) (pe_ix ix_tup (pv 0) pe_int (fun _ _ => rfl))) (pa_cons (pv 2) pa_nil))))
      (pss_one (ps_ret (pe_op op_add (pe_op op_add (pv 1) (pe_ix ix_tup (pv 0) pe_int (fun _ _ => rfl))) (pe_ifExp (pt_cmp (pc_eqI (pe_callP (ok_L_figures T) (hr.mono (by decide)) (by rfl) pass0 (pa_cons (pe_op op_add (pe_op op_add (pv 1) (pe_ix ix_tup (pv 0) pe_int (fun _ _ => rfl))) (pv 3)) (pa_cons (pv 2) pa_nil))) (pv 3))) (pv 3) (pe_op op_add (pv 3) pe_int)))))) pss_nil)
      (pss_cons (ps_if (pt_cmpR op_eq (pe_ix ix_tup (pv 0) pe_int (fun _ _ => rfl)) pe_str (nomark _)) (pss_cons (ps_asg (pe_callB call_divmodW (by rfl) T.b_divmod (by decide +kernel) (pa_cons (pv 1) (pa_cons (pe_ix ix_tup (pv 0) pe_int (fun _ _ => rfl)) pa_nil))) (pg_tup rfl (pgs_cons (pg_name (i := 4) sc_L_over.nd rfl (Or.inl rfl)) (pgs_cons (pg_name (i := 5) sc_L_over.nd rfl (Or.inl rfl)) pgs_nil))))
      (pss_cons (ps_set (i := 6) sc_L_over.nd rfl (Or.inl rfl) (pe_ifExp (pt_cmp (pc_gt (pv 5) pe_int)) (pe_op op_add (pe_op op_add (pv 5) (pe_ix ix_tup (pv 0) pe_int (fun _ _ => rfl))) (pe_callP (ok_L_figures T) (hr.mono (by decide)) (by rfl) pass0 (pa_cons (pv 5) (pa_cons (pv 2) pa_nil)))) pe_int))
      (pss_one (ps_ret (pe_op op_add (pe_op op_add (pe_op op_add (pe_op op_mul (pv 4) (pe_op op_add (pe_op op_add (pe_ix ix_tup (pv 0) pe_int (fun _ _ => rfl)) (pe_ix ix_tup (pv 0) pe_int (fun _ _ => rfl))) (pe_callP (ok_L_figures T) (hr.mono (by decide)) (by rfl) pass0 (pa_cons (pe_ix ix_tup (pv 0) pe_int (fun _ _ => rfl)) (pa_cons (pv 2) pa_nil))))) (pv 6)) (pe_ix ix_tup (pv 0) pe_int (fun _ _ => rfl))) pe_int))))) pss_nil)
      (pss_cons (ps_set (i := 7) sc_L_over.nd rfl (Or.inl rfl) (pe_op op_fdiv (pe_op op_sub (pe_op op_add (pv 1) (pe_ix ix_tup (pv 0) pe_int (fun _ _ => rfl))) pe_int) (pe_ix ix_tup (pv 0) pe_int (fun _ _ => rfl))))
      (pss_cons (ps_if (pt_cmpR op_eq (pe_ix ix_tup (pv 0) pe_int (fun _ _ => rfl)) pe_str (nomark _)) (pss_one (ps_ret (pe_op op_add (pv 1) (pe_op op_mul (pv 7) (pe_ix ix_tup (pv 0) pe_int (fun _ _ => rfl)))))) pss_nil)
      (pss_one (ps_ret (pe_op op_mul (pv 7) (pe_ifExp (pt_cmpR op_eq (pe_ix ix_tup (pv 0) pe_int (fun _ _ => rfl)) pe_str (nomark _)) (pe_ix ix_tup (pv 0) pe_int (fun _ _ => rfl)) (pe_ix ix_tup (pv 0) pe_int (fun _ _ => rfl)))))))))))), ?_⟩
    cases a with
    | plus c =>
      simp only [Wr.ok] at ha
      refine ⟨_, rfl, p, _, _, _, rfl, rfl, SqT.of hp, rfl, rfl, _, rfl, ifd_pos rfl ?_⟩
      exact ⟨_, rfl, _, rfl, p, _, _, _, rfl, rfl, SqT.of hp, rfl, _, _, rfl, rfl, k0⟩
    | told c =>
      simp only [Wr.ok] at ha
      refine ⟨_, rfl, p, _, _, _, rfl, rfl, SqT.of hp, rfl, rfl, _, rfl, ifs_neg (show ("told" : Str) ≠ "plus" by decide) ?_⟩
      refine ⟨_, rfl, p, _, _, _, rfl, rfl, SqT.of hp, rfl, rfl, _, rfl, ifd_pos rfl ?_⟩
      exact ⟨_, rfl, _, rfl, p, _, _, _, rfl, rfl, SqT.of hp, rfl, _, _, rfl, rfl, _, rfl, _, rfl, n, b, rfl, b0, b1, n0, _, _, rfl, rfl, k0⟩
    | whole c =>
      simp only [Wr.ok] at ha
      refine ⟨_, rfl, p, _, _, _, rfl, rfl, SqT.of hp, rfl, rfl, _, rfl, ifs_neg (show ("whole" : Str) ≠ "plus" by decide) ?_⟩
      refine ⟨_, rfl, p, _, _, _, rfl, rfl, SqT.of hp, rfl, rfl, _, rfl, ifs_neg (show ("whole" : Str) ≠ "told" by decide) ?_⟩
      refine ⟨_, rfl, p, _, _, _, rfl, rfl, SqT.of hp, rfl, rfl, _, rfl, ifd_pos rfl ?_⟩
      refine ⟨_, rfl, _, rfl, p, _, _, _, rfl, rfl, SqT.of hp, rfl, _, _, rfl, rfl, _, rfl, n + c, b, rfl, b0, b1, by omega, ?_⟩
      refine ⟨_, rfl, _, rfl, p, _, _, _, rfl, rfl, SqT.of hp, rfl, _, _, rfl, rfl, ?_⟩
      refine ⟨_, rfl, _, rfl, p, _, _, _, rfl, rfl, SqT.of hp, rfl, _, _, rfl, rfl, _, rfl, _, _, rfl, rfl, _, rfl, n + c + figF b (n + c), b, rfl, b0, b1, ?_, _, rfl, _, _, rfl, rfl, _, rfl, ?_⟩
      · have := figF_pos (b := b) (n := n + c) b0
        omega
      have f := figF_is (b := b) (n := n + c) b0
      have g := figF_is (b := b) (n := n + c + figF b (n + c)) b0
      refine ifd (fun z => ?_) (fun z => ?_)
      · have z : figF b (n + c + figF b (n + c)) = figF b (n + c) := z
        rw [z] at g
        have et := totF_eq b0 (show 0 ≤ n + c by omega) (isTot_first b0 f g)
        simp only [Wr.gr] at k0
        rw [← et] at k0
        exact ⟨_, rfl, _, _, rfl, rfl, k0⟩
      · have z : ¬ figF b (n + c + figF b (n + c)) = figF b (n + c) := z
        have e := (fig_grow b0 (show 0 ≤ n + c by omega) f g).resolve_left z
        rw [e] at g
        have et := totF_eq b0 (show 0 ≤ n + c by omega) (isTot_second b0 (show 0 ≤ n + c by omega) f g)
        simp only [Wr.gr] at k0
        rw [← et, show n + c + figF b (n + c) + 1 = n + c + (figF b (n + c) + 1) by omega] at k0
        exact ⟨_, rfl, _, _, rfl, rfl, _, _, rfl, rfl, k0⟩
    | pieces m c =>
      simp only [Wr.ok] at ha
      refine ⟨_, rfl, p, _, _, _, rfl, rfl, SqT.of hp, rfl, rfl, _, rfl, ifs_neg (show ("pieces" : Str) ≠ "plus" by decide) ?_⟩
      refine ⟨_, rfl, p, _, _, _, rfl, rfl, SqT.of hp, rfl, rfl, _, rfl, ifs_neg (show ("pieces" : Str) ≠ "told" by decide) ?_⟩
      refine ⟨_, rfl, p, _, _, _, rfl, rfl, SqT.of hp, rfl, rfl, _, rfl, ifs_neg (show ("pieces" : Str) ≠ "whole" by decide) ?_⟩
      refine ⟨_, rfl, p, _, _, _, rfl, rfl, SqT.of hp, rfl, rfl, _, rfl, ifd_pos rfl ?_⟩
      have r0 := Int.emod_nonneg n (show m ≠ 0 by omega)
      have r1 := Int.emod_lt_of_pos n (show 0 < m by omega)
      have f1 := fig_small (b := b) (m := m) b0 ha.2.1
      have f2 := figF_pos (b := b) (n := m) b0
      refine ⟨_, rfl, _, rfl, p, _, _, _, rfl, rfl, SqT.of hp, rfl, _, _, rfl, divp_small (by omega) (by omega), fun t ht => ⟨t, _, rfl, SqT.of upd_same, rfl, _, _, rfl, _, _, rfl, rfl, ?_⟩⟩
      have s1 := up (o := .tup [.int (n / m), .int (n % m)]) ht
      have hp := s1 _ _ hp
      have k1 := k _ s1
      simp only [Wr.gr] at k1
      generalize upd H t (.tup [.int (n / m), .int (n % m)]) = H1 at s1 hp k1 ⊢
      refine ⟨_, rfl, _, _, rfl, rfl, _, rfl, ifd (fun z => ?_) (fun z => ?_)⟩
      · have z : n % m > 0 := z
        rw [if_pos z] at k1
        refine ⟨_, rfl, _, rfl, p, _, _, _, rfl, rfl, SqT.of hp, rfl, _, _, rfl, rfl, _, rfl, _, rfl, n % m, b, rfl, b0, b1, r0, _, _, rfl, rfl, ?_⟩
        refine ⟨_, rfl, _, rfl, p, _, _, _, rfl, rfl, SqT.of hp, rfl, _, rfl, p, _, _, _, rfl, rfl, SqT.of hp, rfl, _, _, rfl, rfl, _, rfl, p, _, _, _, rfl, rfl, SqT.of hp, rfl, _, rfl, m, b, rfl, b0, b1, by omega, _, _, rfl, rfl, _, _, rfl, rfl, .inr ⟨(show -(2 ^ 64) < m + c + figF b m by omega), (show m + c + figF b m < 2 ^ 64 by omega)⟩, ?_⟩
        exact ⟨_, rfl, _, _, rfl, rfl, _, rfl, p, _, _, _, rfl, rfl, SqT.of hp, rfl, _, _, rfl, rfl, _, _, rfl, rfl, k1⟩
      · have z : ¬ n % m > 0 := z
        rw [if_neg z] at k1
        refine ⟨_, rfl, _, rfl, p, _, _, _, rfl, rfl, SqT.of hp, rfl, _, rfl, p, _, _, _, rfl, rfl, SqT.of hp, rfl, _, _, rfl, rfl, _, rfl, p, _, _, _, rfl, rfl, SqT.of hp, rfl, _, rfl, m, b, rfl, b0, b1, by omega, _, _, rfl, rfl, _, _, rfl, rfl, .inr ⟨(show -(2 ^ 64) < m + c + figF b m by omega), (show m + c + figF b m < 2 ^ 64 by omega)⟩, ?_⟩
        exact ⟨_, rfl, _, _, rfl, rfl, _, rfl, p, _, _, _, rfl, rfl, SqT.of hp, rfl, _, _, rfl, rfl, _, _, rfl, rfl, k1⟩
    | cut m c =>
      simp only [Wr.ok] at ha
      refine ⟨_, rfl, p, _, _, _, rfl, rfl, SqT.of hp, rfl, rfl, _, rfl, ifs_neg (show ("cut" : Str) ≠ "plus" by decide) ?_⟩
      refine ⟨_, rfl, p, _, _, _, rfl, rfl, SqT.of hp, rfl, rfl, _, rfl, ifs_neg (show ("cut" : Str) ≠ "told" by decide) ?_⟩
      refine ⟨_, rfl, p, _, _, _, rfl, rfl, SqT.of hp, rfl, rfl, _, rfl, ifs_neg (show ("cut" : Str) ≠ "whole" by decide) ?_⟩
      refine ⟨_, rfl, p, _, _, _, rfl, rfl, SqT.of hp, rfl, rfl, _, rfl, ifs_neg (show ("cut" : Str) ≠ "pieces" by decide) ?_⟩
      refine ⟨_, rfl, _, rfl, p, _, _, _, rfl, rfl, SqT.of hp, rfl, _, _, rfl, rfl, _, _, rfl, rfl, _, rfl, p, _, _, _, rfl, rfl, SqT.of hp, rfl, _, _, rfl, rfl, ⟨(show 0 < m by omega), (show m < 1073741824 by omega)⟩, ?_⟩
      refine ⟨_, rfl, p, _, _, _, rfl, rfl, SqT.of hp, rfl, rfl, _, rfl, ifd_pos rfl ?_⟩
      exact ⟨_, rfl, _, rfl, _, rfl, p, _, _, _, rfl, rfl, SqT.of hp, rfl, _, _, rfl, rfl, .inr ⟨(show -(2 ^ 64) < c by omega), (show c < 2 ^ 64 by omega)⟩, _, _, rfl, rfl, k0⟩
    | coded m c =>
      simp only [Wr.ok] at ha
      refine ⟨_, rfl, p, _, _, _, rfl, rfl, SqT.of hp, rfl, rfl, _, rfl, ifs_neg (show ("coded" : Str) ≠ "plus" by decide) ?_⟩
      refine ⟨_, rfl, p, _, _, _, rfl, rfl, SqT.of hp, rfl, rfl, _, rfl, ifs_neg (show ("coded" : Str) ≠ "told" by decide) ?_⟩
      refine ⟨_, rfl, p, _, _, _, rfl, rfl, SqT.of hp, rfl, rfl, _, rfl, ifs_neg (show ("coded" : Str) ≠ "whole" by decide) ?_⟩
      refine ⟨_, rfl, p, _, _, _, rfl, rfl, SqT.of hp, rfl, rfl, _, rfl, ifs_neg (show ("coded" : Str) ≠ "pieces" by decide) ?_⟩
      refine ⟨_, rfl, _, rfl, p, _, _, _, rfl, rfl, SqT.of hp, rfl, _, _, rfl, rfl, _, _, rfl, rfl, _, rfl, p, _, _, _, rfl, rfl, SqT.of hp, rfl, _, _, rfl, rfl, ⟨(show 0 < m by omega), (show m < 1073741824 by omega)⟩, ?_⟩
      refine ⟨_, rfl, p, _, _, _, rfl, rfl, SqT.of hp, rfl, rfl, _, rfl, ifs_neg (show ("coded" : Str) ≠ "cut" by decide) ?_⟩
      refine ⟨_, rfl, _, rfl, p, _, _, _, rfl, rfl, SqT.of hp, rfl, rfl, _, rfl, ifd_pos rfl ?_⟩
      exact ⟨_, rfl, p, _, _, _, rfl, rfl, SqT.of hp, rfl, _, _, rfl, rfl, .inr ⟨(show -(2 ^ 64) < c by omega), (show c < 2 ^ 64 by omega)⟩, k0⟩
    | filled m =>
      simp only [Wr.ok] at ha
      refine ⟨_, rfl, p, _, _, _, rfl, rfl, SqT.of hp, rfl, rfl, _, rfl, ifs_neg (show ("filled" : Str) ≠ "plus" by decide) ?_⟩
      refine ⟨_, rfl, p, _, _, _, rfl, rfl, SqT.of hp, rfl, rfl, _, rfl, ifs_neg (show ("filled" : Str) ≠ "told" by decide) ?_⟩
      refine ⟨_, rfl, p, _, _, _, rfl, rfl, SqT.of hp, rfl, rfl, _, rfl, ifs_neg (show ("filled" : Str) ≠ "whole" by decide) ?_⟩
      refine ⟨_, rfl, p, _, _, _, rfl, rfl, SqT.of hp, rfl, rfl, _, rfl, ifs_neg (show ("filled" : Str) ≠ "pieces" by decide) ?_⟩
      refine ⟨_, rfl, _, rfl, p, _, _, _, rfl, rfl, SqT.of hp, rfl, _, _, rfl, rfl, _, _, rfl, rfl, _, rfl, p, _, _, _, rfl, rfl, SqT.of hp, rfl, _, _, rfl, rfl, ⟨(show 0 < m by omega), (show m < 1073741824 by omega)⟩, ?_⟩
      refine ⟨_, rfl, p, _, _, _, rfl, rfl, SqT.of hp, rfl, rfl, _, rfl, ifs_neg (show ("filled" : Str) ≠ "cut" by decide) ?_⟩
      refine ⟨_, rfl, _, rfl, p, _, _, _, rfl, rfl, SqT.of hp, rfl, rfl, _, rfl, ifs_neg (show ("filled" : Str) ≠ "coded" by decide) ?_⟩
      exact ⟨_, rfl, p, _, _, _, rfl, rfl, SqT.of hp, rfl, _, _, rfl, rfl, .inr ⟨(show -(2 ^ 64) < m by omega), (show m < 2 ^ 64 by omega)⟩, k0⟩
end
def tagD (a : Wr) : PyData := .tuple (.str a.kind :: a.nums.map PyData.int)
theorem TagsAt.dp {K : PySem.W.Frag} {H : Hp} {xs : List V} {ws : List Wr} (h : TagsAt H xs ws) : DpAll K H xs (ws.map tagD) := by
  induction h with
  | nil => exact .nil
  | cons h _ ih => exact .cons (.tup (SqT.of h) (.cons (.str _) (dp_ints _))) ih
theorem tag_shp (a : Wr) : Shp (tagD a) 1 := shp_tuple (k := 0) fun d hd => by
  rcases List.mem_cons.mp hd with rfl | hd
  · exact shp_str (by cases a <;> simp only [Wr.kind] <;> decide +kernel)
  · obtain ⟨i, _, rfl⟩ := List.mem_map.mp hd
    exact shp_int i
theorem tags_shp (ws : List Wr) : Shp (.list (ws.map tagD)) 2 := shp_list fun d hd => by
  obtain ⟨a, _, rfl⟩ := List.mem_map.mp hd
  exact tag_shp a
def spLLong : Sp := fun vs H Q _ => ∃ (l : Addr) (xs : List V) (ws : List Wr) (n b : Int), vs = [.ref l, .int n, .int b] ∧ H l = some (.lst xs) ∧ TagsAt H xs ws ∧ (∀ a ∈ ws, a.ok) ∧ 2 ≤ b ∧ b ≤ 256 ∧ 0 ≤ n ∧ ∀ H', Same H H' → Q (.int (grS b ws n)) H'
def spLFine : Sp := fun vs H Q _ => ∃ (l : Addr) (xs : List V) (ws : List Wr), vs = [.ref l] ∧ H l = some (.lst xs) ∧ TagsAt H xs ws ∧ (∀ a ∈ ws, a.ok) ∧ ∀ H', Same H H' → Q (.int (fineL ws)) H'
def spLTag : Sp := fun vs H Q _ => ∃ (p : Addr) (r : Int), vs = [.ref p, .int r] ∧ PurseAt H p ∧ 1 ≤ r ∧ r ≤ 120 ∧ ∀ q a H', a.ok → a.use ≤ r → H q = none → Drew p H H' → TagAt H' q a → Q (.ref q) H'
def spLMade (K : PySem.W.Frag) : Sp := fun vs H Q _ => ∃ (p : Addr) (a : Wr), vs = [.ref p] ∧ TagAt H p a ∧ a.ok ∧ ∀ q H', H q = none → Same H H' → WrapAt K H' q a → Q (.ref q) H'
theorem grS_nonneg {b : Int} (hb : 2 ≤ b) : ∀ (ws : List Wr), (∀ a ∈ ws, a.ok) → ∀ {n : Int}, 0 ≤ n → 0 ≤ grS b ws n
  | [], _, n, h => h
  | a :: ws, ha, n, h => grS_nonneg hb ws (fun x hx => ha x (List.mem_cons_of_mem _ hx)) (gr_le hb (ha a (List.mem_cons_self ..)) h).1
section
variable {P : Program} {w : World} {K : PySem.W.Frag} {mg : Str → Option Value} {base : Heap}
theorem ok_L_long (T : Tx w K mg) : Prom P w K mg base CX0 3 "_law_long" s_L_long ["_law_tags", "_law_n", "_law_b"] spLLong := by
  refine Prom.of T.d_L_long sc_L_long (fun vs H Q E h => ?_) (fun _ _ _ _ _ _ us hl => match us, hl with | [_, _, _], _ => rfl) (fun f cdv A outer s H vs Q E hr h => ?_)
  · obtain ⟨l, xs, ws, n, b, rfl, _⟩ := h
    rfl
  · obtain ⟨l, xs, ws, n, b, rfl, hl, hw, ha, b0, b1, n0, k⟩ := h
    refine ⟨_, (pss_cons (ps_for PassesOwn.never (by rfl) (pi_list (pv 0)) (pg_name (i := 3) sc_L_long.nd rfl (Or.inl rfl)) (pss_one (ps_set (i := 1) sc_L_long.nd rfl (Or.inl rfl) (pe_callP (ok_L_over T) (hr.mono (by decide)) (by rfl) pass0 (pa_cons (pv 3) (pa_cons (pv 1) (pa_cons (pv 2) pa_nil)))))))
      (pss_one (ps_ret (pv 1)))), ?_⟩
    refine ⟨_, rfl, l, rfl, ⟨_, SqL.of hl⟩, for_list (K := K) (a := l) (xs := xs) (fun i σ H' => Same H H' ∧ ∃ v, σ = [some (.ref l), some (.int (grS b (ws.take i) n)), some (.int b), v]) ⟨Same.refl H, none, rfl⟩ (fun i σ H' _ h => SqL.of (h.1 _ _ hl)) ?_ ?_⟩
    · rintro i x σ H' hi ⟨hs, v, rfl⟩
      obtain ⟨p, a, rfl, hp, pa⟩ := hw.get hi
      have et : grS b (ws.take (i + 1)) n = a.gr b (grS b (ws.take i) n) := by
        unfold grS
        rw [List.take_succ, hp, List.foldl_append]
        rfl
      rw [et]
      refine ⟨_, rfl, _, rfl, _, rfl, p, a, _, b, rfl, hs _ _ pa, ha a (List.mem_of_getElem? hp), b0, b1, grS_nonneg b0 _ (fun z hz => ha z (List.mem_of_mem_take hz)) n0, fun H2 s2 => ?_⟩
      exact ⟨hs.trans s2, _, rfl⟩
    · rintro σ H' ⟨hs, v, rfl⟩
      rw [hw.len, List.take_length]
      exact ⟨_, rfl, k _ hs⟩
theorem ok_L_fine (T : Tx w K mg) : Prom P w K mg base CX0 1 "_law_fine" s_L_fine ["_law_tags"] spLFine := by
  refine Prom.of T.d_L_fine sc_L_fine (fun vs H Q E h => ?_) (fun _ _ _ _ _ _ us hl => match us, hl with | [_], _ => rfl) (fun f cdv A outer s H vs Q E hr h => ?_)
  · obtain ⟨l, xs, ws, rfl, _⟩ := h
    rfl
  · obtain ⟨l, xs, ws, rfl, hl, hw, ha, k⟩ := h
    refine ⟨_, (pss_cons (ps_set (i := 1) sc_L_fine.nd rfl (Or.inl rfl) pe_int)
      (pss_cons (ps_for PassesOwn.never (by rfl) (pi_list (pv 0)) (pg_name (i := 2) sc_L_fine.nd rfl (Or.inl rfl)) (pss_one (ps_if (pt_cmpR op_in_seq (pe_ix ix_tup (pv 2) pe_int (fun _ _ => rfl)) (pe_lst (pa_cons pe_str (pa_cons pe_str (pa_cons pe_str (pa_cons pe_str pa_nil))))) (by rfl)) (pss_one (ps_set (i := 1) sc_L_fine.nd rfl (Or.inl rfl) (pe_op op_mul (pe_op op_mul (pv 1) (pe_ix ix_tup (pv 2) pe_int (fun _ _ => rfl))) (pe_ifExp (pt_cmpR op_eq (pe_ix ix_tup (pv 2) pe_int (fun _ _ => rfl)) pe_str (nomark _)) (pe_ix ix_tup (pv 2) pe_int (fun _ _ => rfl)) pe_int)))) pss_nil)))
      (pss_one (ps_ret (pv 1))))), ?_⟩
    refine ⟨_, rfl, l, rfl, ⟨_, SqL.of hl⟩, for_list (K := K) (a := l) (xs := xs) (fun i σ H' => Same H H' ∧ ∃ v, σ = [some (.ref l), some (.int ((ws.take i).foldl stepF 1)), v]) ⟨Same.refl H, none, rfl⟩ (fun i σ H' _ h => SqL.of (h.1 _ _ hl)) ?_ ?_⟩
    · rintro i x σ H' hi ⟨hs, v, rfl⟩
      obtain ⟨q, a, rfl, hx, pa⟩ := hw.get hi
      have hok := ha a (List.mem_of_getElem? hx)
      have hq : H' q = _ := hs _ _ pa
      have et : (ws.take (i + 1)).foldl stepF 1 = stepF ((ws.take i).foldl stepF 1) a := by
        rw [List.take_succ, hx, List.foldl_append]
        rfl
      generalize (ws.take i).foldl stepF 1 = m at et ⊢
      rw [et]
      cases a with
      | plus c =>
        refine ⟨_, rfl, q, _, _, _, rfl, rfl, SqT.of hq, rfl, (by show 4 ≤ sizeLine; decide), fun l2 hl2 => ⟨l2, _, rfl, .inl (SqL.of upd_same), rfl, rfl, _, rfl, ifb_neg (by kernel_rfl) ?_⟩⟩
        exact ⟨hs.trans (up hl2), _, rfl⟩
      | told c =>
        refine ⟨_, rfl, q, _, _, _, rfl, rfl, SqT.of hq, rfl, (by show 4 ≤ sizeLine; decide), fun l2 hl2 => ⟨l2, _, rfl, .inl (SqL.of upd_same), rfl, rfl, _, rfl, ifb_neg (by kernel_rfl) ?_⟩⟩
        exact ⟨hs.trans (up hl2), _, rfl⟩
      | whole c =>
        refine ⟨_, rfl, q, _, _, _, rfl, rfl, SqT.of hq, rfl, (by show 4 ≤ sizeLine; decide), fun l2 hl2 => ⟨l2, _, rfl, .inl (SqL.of upd_same), rfl, rfl, _, rfl, ifb_neg (by kernel_rfl) ?_⟩⟩
        exact ⟨hs.trans (up hl2), _, rfl⟩
      | pieces m' c =>
        simp only [Wr.ok] at hok
        refine ⟨_, rfl, q, _, _, _, rfl, rfl, SqT.of hq, rfl, (by show 4 ≤ sizeLine; decide), fun l2 hl2 => ⟨l2, _, rfl, .inl (SqL.of upd_same), rfl, rfl, _, rfl, ifb_pos (by kernel_rfl) ?_⟩⟩
        have hq2 := up (o := .lst [V.str "pieces", V.str "cut", V.str "coded", V.str "filled"]) hl2 _ _ hq
        refine ⟨_, rfl, _, rfl, q, _, _, _, rfl, rfl, SqT.of hq2, rfl, _, _, rfl, rfl, .inr ⟨(show -(2 ^ 64) < m' by omega), (show m' < 2 ^ 64 by omega)⟩, ?_⟩
        refine ⟨_, rfl, q, _, _, _, rfl, rfl, SqT.of hq2, rfl, rfl, _, rfl, ifs_neg (show ("pieces" : Str) ≠ "coded" by decide) ?_⟩
        refine ⟨_, _, rfl, rfl, .inr ⟨by decide, by decide⟩, hs.trans (up hl2), some (.ref q), ?_⟩
        show [some (V.ref l), some (V.int (m * m' * 1)), some (V.ref q)] = _
        rw [Int.mul_one]
        rfl
      | cut m' c =>
        simp only [Wr.ok] at hok
        refine ⟨_, rfl, q, _, _, _, rfl, rfl, SqT.of hq, rfl, (by show 4 ≤ sizeLine; decide), fun l2 hl2 => ⟨l2, _, rfl, .inl (SqL.of upd_same), rfl, rfl, _, rfl, ifb_pos (by kernel_rfl) ?_⟩⟩
        have hq2 := up (o := .lst [V.str "pieces", V.str "cut", V.str "coded", V.str "filled"]) hl2 _ _ hq
        refine ⟨_, rfl, _, rfl, q, _, _, _, rfl, rfl, SqT.of hq2, rfl, _, _, rfl, rfl, .inr ⟨(show -(2 ^ 64) < m' by omega), (show m' < 2 ^ 64 by omega)⟩, ?_⟩
        refine ⟨_, rfl, q, _, _, _, rfl, rfl, SqT.of hq2, rfl, rfl, _, rfl, ifs_neg (show ("cut" : Str) ≠ "coded" by decide) ?_⟩
        refine ⟨_, _, rfl, rfl, .inr ⟨by decide, by decide⟩, hs.trans (up hl2), some (.ref q), ?_⟩
        show [some (V.ref l), some (V.int (m * m' * 1)), some (V.ref q)] = _
        rw [Int.mul_one]
        rfl
      | filled m' =>
        simp only [Wr.ok] at hok
        refine ⟨_, rfl, q, _, _, _, rfl, rfl, SqT.of hq, rfl, (by show 4 ≤ sizeLine; decide), fun l2 hl2 => ⟨l2, _, rfl, .inl (SqL.of upd_same), rfl, rfl, _, rfl, ifb_pos (by kernel_rfl) ?_⟩⟩
        have hq2 := up (o := .lst [V.str "pieces", V.str "cut", V.str "coded", V.str "filled"]) hl2 _ _ hq
        refine ⟨_, rfl, _, rfl, q, _, _, _, rfl, rfl, SqT.of hq2, rfl, _, _, rfl, rfl, .inr ⟨(show -(2 ^ 64) < m' by omega), (show m' < 2 ^ 64 by omega)⟩, ?_⟩
        refine ⟨_, rfl, q, _, _, _, rfl, rfl, SqT.of hq2, rfl, rfl, _, rfl, ifs_neg (show ("filled" : Str) ≠ "coded" by decide) ?_⟩
        refine ⟨_, _, rfl, rfl, .inr ⟨by decide, by decide⟩, hs.trans (up hl2), some (.ref q), ?_⟩
        show [some (V.ref l), some (V.int (m * m' * 1)), some (V.ref q)] = _
        rw [Int.mul_one]
        rfl
      | coded m' c =>
        simp only [Wr.ok] at hok
        refine ⟨_, rfl, q, _, _, _, rfl, rfl, SqT.of hq, rfl, (by show 4 ≤ sizeLine; decide), fun l2 hl2 => ⟨l2, _, rfl, .inl (SqL.of upd_same), rfl, rfl, _, rfl, ifb_pos (by kernel_rfl) ?_⟩⟩
        have hq2 := up (o := .lst [V.str "pieces", V.str "cut", V.str "coded", V.str "filled"]) hl2 _ _ hq
        refine ⟨_, rfl, _, rfl, q, _, _, _, rfl, rfl, SqT.of hq2, rfl, _, _, rfl, rfl, .inr ⟨(show -(2 ^ 64) < m' by omega), (show m' < 2 ^ 64 by omega)⟩, ?_⟩
        refine ⟨_, rfl, q, _, _, _, rfl, rfl, SqT.of hq2, rfl, rfl, _, rfl, ifd_pos rfl ?_⟩
        exact ⟨_, rfl, q, _, _, _, rfl, rfl, SqT.of hq2, rfl, _, _, rfl, rfl, .inr ⟨(show -(2 ^ 64) < c by omega), (show c < 2 ^ 64 by omega)⟩, hs.trans (up hl2), _, rfl⟩
    · rintro σ H' ⟨hs, v, rfl⟩
      rw [hw.len, List.take_length]
      exact ⟨_, rfl, k _ hs⟩
theorem ok_L_made (T : Tx w K mg) : Prom P w K mg base CX0 6 "_law_made" s_L_made ["_law_tag"] (spLMade K) := by
  refine Prom.of T.d_L_made sc_L_made (fun vs H Q E h => ?_) (fun _ _ _ _ _ _ us hl => match us, hl with | [_], _ => rfl) (fun f cdv A outer s H vs Q E hr h => ?_)
  · obtain ⟨p, a, rfl, _⟩ := h
    rfl
  · obtain ⟨p, a, rfl, hp, ha, k⟩ := h
    have hp : H p = _ := hp
    refine ⟨_, (pss_one (ps_ret (pe_ifExp (pt_cmp (pc_eqI (pe_callB call_len_seq (by rfl) T.b_len (by decide +kernel) (pa_cons (pv 0) pa_nil)) pe_int)) (pe_newP (ok_Wrap T) (hr.mono (by decide)) (by rfl) pass0 (pa_cons (pe_ix ix_tup (pv 0) pe_int (fun _ _ => rfl)) (pa_cons (pe_ix ix_tup (pv 0) pe_int (fun _ _ => rfl)) pa_nil))) (pe_newP (ok_Wrap T) (hr.mono (by decide)) (by rfl) pass0 (pa_cons (pe_ix ix_tup (pv 0) pe_int (fun _ _ => rfl)) (pa_cons (pe_ix ix_tup (pv 0) pe_int (fun _ _ => rfl)) (pa_cons (pe_ix ix_tup (pv 0) pe_int (fun _ _ => rfl)) pa_nil))))))), ?_⟩
    refine ⟨_, rfl, p, _, rfl, .inr (SqT.of hp), _, _, rfl, rfl, _, rfl, ?_⟩
    have two : ∀ n m : Int, a.nums = [n, m] → False ∨ True := fun _ _ _ => .inr trivial
    cases a with
    | plus c => exact ifd_pos rfl ⟨_, rfl, p, _, _, _, rfl, rfl, SqT.of hp, rfl, _, rfl, p, _, _, _, rfl, rfl, SqT.of hp, rfl, Wr.plus c, rfl, ha, k⟩
    | told c => exact ifd_pos rfl ⟨_, rfl, p, _, _, _, rfl, rfl, SqT.of hp, rfl, _, rfl, p, _, _, _, rfl, rfl, SqT.of hp, rfl, Wr.told c, rfl, ha, k⟩
    | whole c => exact ifd_pos rfl ⟨_, rfl, p, _, _, _, rfl, rfl, SqT.of hp, rfl, _, rfl, p, _, _, _, rfl, rfl, SqT.of hp, rfl, Wr.whole c, rfl, ha, k⟩
    | filled c => exact ifd_pos rfl ⟨_, rfl, p, _, _, _, rfl, rfl, SqT.of hp, rfl, _, rfl, p, _, _, _, rfl, rfl, SqT.of hp, rfl, Wr.filled c, rfl, ha, k⟩
    | pieces m c => exact ifd_neg (by show ¬ ((3 : Nat) : Int) = 2; decide) ⟨_, rfl, p, _, _, _, rfl, rfl, SqT.of hp, rfl, _, rfl, p, _, _, _, rfl, rfl, SqT.of hp, rfl, _, rfl, p, _, _, _, rfl, rfl, SqT.of hp, rfl, Wr.pieces m c, rfl, ha, k⟩
    | cut m c => exact ifd_neg (by show ¬ ((3 : Nat) : Int) = 2; decide) ⟨_, rfl, p, _, _, _, rfl, rfl, SqT.of hp, rfl, _, rfl, p, _, _, _, rfl, rfl, SqT.of hp, rfl, _, rfl, p, _, _, _, rfl, rfl, SqT.of hp, rfl, Wr.cut m c, rfl, ha, k⟩
    | coded m c => exact ifd_neg (by show ¬ ((3 : Nat) : Int) = 2; decide) ⟨_, rfl, p, _, _, _, rfl, rfl, SqT.of hp, rfl, _, rfl, p, _, _, _, rfl, rfl, SqT.of hp, rfl, _, rfl, p, _, _, _, rfl, rfl, SqT.of hp, rfl, Wr.coded m c, rfl, ha, k⟩
end
def MoveAt (H : Hp) (p : Addr) : Stp → Prop
  | .push a => ∃ q, H p = some (.tup [.str "push", .ref q]) ∧ TagAt H q a
  | .pop => H p = some (.tup [.str "pop"])
  | .bound n => H p = some (.tup [.str "bound", .int n])
theorem MoveAt.same {H H' : Hp} {p : Addr} {s : Stp} (h : MoveAt H p s) (e : Same H H') : MoveAt H' p s := by
  cases s with
  | push a =>
    obtain ⟨q, h1, h2⟩ := h
    exact ⟨q, e _ _ h1, e _ _ h2⟩
  | pop => exact e _ _ h
  | bound n => exact e _ _ h
theorem MoveAt.drew {H H1 : Hp} {p q : Addr} {s : Stp} (h : MoveAt H q s) (d : Drew p H H1) (hp : PurseAt H p) : MoveAt H1 q s := by
  cases s with
  | push a =>
    obtain ⟨q, h1, h2⟩ := h
    exact ⟨q, d.keep hp h1 (fun _ z => by cases z), d.tag hp h2⟩
  | pop => exact d.keep hp h (fun _ z => by cases z)
  | bound n => exact d.keep hp h (fun _ z => by cases z)
theorem MoveAt.put {H : Hp} {l p : Addr} {ys zs : List V} {s : Stp} (h : MoveAt H p s) (hl : H l = some (.lst ys)) : MoveAt (upd H l (.lst zs)) p s := by
  have ne : ∀ {q : Addr} {xs : List V}, H q = some (.tup xs) → (upd H l (.lst zs)) q = some (.tup xs) := fun {q xs} e => by
    rw [upd_ne (fun z => by rw [z, hl] at e; cases e)]
    exact e
  cases s with
  | push a =>
    obtain ⟨q, h1, h2⟩ := h
    exact ⟨q, ne h1, ne h2⟩
  | pop => exact ne h
  | bound n => exact ne h
inductive MovesAt (H : Hp) : List V → List Stp → Prop where
  | nil : MovesAt H [] []
  | cons {p : Addr} {s : Stp} {xs : List V} {ss : List Stp} (h : MoveAt H p s) (r : MovesAt H xs ss) : MovesAt H (.ref p :: xs) (s :: ss)
theorem MovesAt.len {H : Hp} {xs : List V} {ss : List Stp} (h : MovesAt H xs ss) : xs.length = ss.length := by
  induction h with
  | nil => rfl
  | cons _ _ ih => exact congrArg (· + 1) ih
theorem MovesAt.get {H : Hp} {xs : List V} {ss : List Stp} (h : MovesAt H xs ss) : ∀ {i : Nat} {x : V}, xs[i]? = some x → ∃ (p : Addr) (s : Stp), x = .ref p ∧ ss[i]? = some s ∧ MoveAt H p s := by
  induction h with
  | nil =>
    intro i x e
    simp at e
  | cons h _ ih =>
    intro i x e
    cases i with
    | zero =>
      simp at e
      exact ⟨_, _, e.symm, rfl, h⟩
    | succ i => exact ih (by simpa using e)
theorem MovesAt.at_ {H : Hp} {xs : List V} {ss : List Stp} (h : MovesAt H xs ss) : ∀ {i : Nat} {s : Stp}, ss[i]? = some s → ∃ p, xs[i]? = some (.ref p) ∧ MoveAt H p s := by
  induction h with
  | nil => intro i s e; simp at e
  | cons h _ ih =>
    intro i s e
    cases i with
    | zero =>
      simp at e
      exact ⟨_, rfl, by rw [← e]; exact h⟩
    | succ i => exact ih (by simpa using e)
theorem MovesAt.same {H H' : Hp} {xs : List V} {ss : List Stp} (h : MovesAt H xs ss) (e : Same H H') : MovesAt H' xs ss := by
  induction h with
  | nil => exact .nil
  | cons h _ ih => exact .cons (h.same e) ih
theorem MovesAt.drew {H H1 : Hp} {p : Addr} {xs : List V} {ss : List Stp} (h : MovesAt H xs ss) (d : Drew p H H1) (hp : PurseAt H p) : MovesAt H1 xs ss := by
  induction h with
  | nil => exact .nil
  | cons h _ ih => exact .cons (h.drew d hp) ih
theorem MovesAt.put {H : Hp} {l : Addr} {xs ys zs : List V} {ss : List Stp} (h : MovesAt H xs ss) (hl : H l = some (.lst ys)) : MovesAt (upd H l (.lst zs)) xs ss := by
  induction h with
  | nil => exact .nil
  | cons h _ ih => exact .cons (h.put hl) ih
theorem MovesAt.snoc {H : Hp} {xs : List V} {ss : List Stp} {p : Addr} {s : Stp} (h : MovesAt H xs ss) (hx : MoveAt H p s) : MovesAt H (xs ++ [.ref p]) (ss ++ [s]) := by
  induction h with
  | nil => exact .cons hx .nil
  | cons h _ ih => exact .cons h ih
theorem MovesAt.take {H : Hp} {xs : List V} {ss : List Stp} (h : MovesAt H xs ss) : ∀ i : Nat, MovesAt H (xs.take i) (ss.take i) := by
  induction h with
  | nil => intro i; simp; exact .nil
  | cons h _ ih =>
    intro i
    cases i with
    | zero => exact .nil
    | succ i => exact .cons h (ih i)
theorem Drew.put {p l : Addr} {H H' : Hp} {o : HO} (a : Drew p H H') (h : H l = none) (n : l ≠ p) : Drew p H (upd H' l o) := by
  refine ⟨?_, fun b u nb e => ?_⟩
  · obtain ⟨m, d, c, e, r⟩ := a.at_
    exact ⟨m, d, c, by rw [upd_ne (Ne.symm n)]; exact e, r⟩
  · rw [upd_ne (ne_of_none e h)]
    exact a.kp b u nb e
def spLEdge : Sp := fun vs H Q _ => ∃ (p l : Addr) (xs : List V) (ws : List Wr) (b m : Int), vs = [.ref p, .ref l, .int b, .int m] ∧ PurseAt H p ∧ l ≠ p ∧ H l = some (.lst xs) ∧ TagsAt H xs ws ∧ StkOk b ws ∧ 0 ≤ m ∧ ∀ r H', 0 ≤ r → r ≤ 10 ^ 60 - 1 → Drew p H H' → Q (.int r) H'
def spLMove : Sp := fun vs H Q _ => ∃ (p l : Addr) (xs : List V) (ws : List Wr) (b m : Int), vs = [.ref p, .ref l, .int b, .int m] ∧ PurseAt H p ∧ l ≠ p ∧ H l = some (.lst xs) ∧ TagsAt H xs ws ∧ StkOk b ws ∧ 0 ≤ m ∧ ∀ q s H', stepOk b ws s → H q = none → Drew p H H' → MoveAt H' q s → Q (.ref q) H'
def spLPut : Sp := fun vs H Q _ => ∃ (l m : Addr) (xs : List V) (ws : List Wr) (s : Stp), vs = [.ref l, .ref m] ∧ H l = some (.lst xs) ∧ TagsAt H xs ws ∧ ws.length ≤ 6 ∧ MoveAt H m s ∧ (s = .pop → ws ≠ []) ∧ ∀ xs', TagsAt H xs' (stepOn ws s) → Q .non (upd H l (.lst xs'))
def spLMoves : Sp := fun vs H Q _ => ∃ (p : Addr) (n b m : Int), vs = [.ref p, .int n, .int b, .int m] ∧ PurseAt H p ∧ 0 ≤ n ∧ n ≤ 100 ∧ 2 ≤ b ∧ b ≤ 256 ∧ 0 ≤ m ∧ ∀ l xs ss H', RoadB b ss → (ss.length : Int) = n → H l = none → Drew p H H' → H' l = some (.lst xs) → MovesAt H' xs ss → Q (.ref l) H'
def spLOn : Sp := fun vs H Q _ => ∃ (l : Addr) (xs : List V) (ss : List Stp) (b : Int), vs = [.ref l] ∧ H l = some (.lst xs) ∧ MovesAt H xs ss ∧ RoadB b ss ∧ 2 ≤ b ∧ b ≤ 256 ∧ ∀ q ys H', H q = none → Same H H' → H' q = some (.lst ys) → TagsAt H' ys (onL ss) → Q (.ref q) H'
theorem upd_id {H : Hp} {l : Addr} {o : HO} (h : H l = some o) : upd H l o = H := by
  funext b
  by_cases z : b = l
  · rw [z, upd_same, h]
  · rw [upd_ne z]
theorem wrap_room {b : Int} {ws : List Wr} {a : Wr} (so : StkOk b ws) (hl : ws.length < 6) (ha : a.ok) (hu : a.use ≤ 120 / fineL ws) : StkOk b (ws ++ [a]) := by
  have fp : 1 ≤ fineL ws := fine_pos (ws := ws) so.ok (p := 1) (by decide)
  refine ⟨so.b0, so.b1, fun z hz => ?_, by simp; omega, ?_⟩
  · rcases List.mem_append.mp hz with y | y
    · exact so.ok z y
    · have : z = a := by simpa using y
      rw [this]
      exact ha
  · rw [fine_app]
    have := Int.mul_le_of_le_ediv (show 0 < fineL ws by omega) hu
    rw [Int.mul_comm]
    exact this
section
variable {P : Program} {w : World} {K : PySem.W.Frag} {mg : Str → Option Value} {base : Heap}
theorem ok_L_wrap (T : Tx w K mg) : Prom P w K mg base CX0 3 "_law_wrap" s_L_wrap ["_law_pool_here", "_law_room"] spLTag := by
  refine Prom.of T.d_L_wrap sc_L_wrap (fun vs H Q E h => ?_) (fun _ _ _ _ _ _ us hl => match us, hl with | [_, _], _ => rfl) (fun f cdv A outer s H vs Q E hr h => ?_)
  · obtain ⟨p, r, rfl, _⟩ := h
    rfl
  · obtain ⟨p, r, rfl, hp, r0, r1, k⟩ := h
    refine ⟨_, (pss_cons (ps_par (i := 2) (j := 3) (by rfl) sc_L_wrap.nd rfl rfl (by decide) rfl rfl (pa_cons (pe_callP (ok_L_draw T) (hr.mono (by decide)) (by rfl) pass0 (pa_cons (pv 0) (pa_cons pe_int pa_nil))) (pa_cons (pe_callB (call_min2 rfl) (by rfl) T.b_min (by decide +kernel) (pa_cons pe_int (pa_cons (pv 1) pa_nil))) pa_nil)) (by rfl))
      (pss_cons (ps_if (pt_cmp (pc_lt (pv 2) pe_int)) (pss_one (ps_ret (pe_tup (pa_cons (pe_ix ix_list (pe_lst (pa_cons pe_str (pa_cons pe_str (pa_cons pe_str (pa_cons pe_str pa_nil))))) (pv 2) (fun _ _ => rfl)) (pa_cons (pe_callP (ok_L_constant T) (hr.mono (by decide)) (by rfl) pass0 (pa_cons (pv 0) (pa_cons (pe_ifExp (pt_cmp (pc_lt (pv 2) pe_int)) pe_int pe_int) pa_nil))) pa_nil))))) pss_nil)
      (pss_cons (ps_if (pt_cmp (pc_lt (pv 2) pe_int)) (pss_cons (ps_set (i := 4) sc_L_wrap.nd rfl (Or.inl rfl) (pe_ifExp (pt_cmp (pc_eqI (pe_callP (ok_L_draw T) (hr.mono (by decide)) (by rfl) pass0 (pa_cons (pv 0) (pa_cons pe_int pa_nil))) pe_int)) (pv 3) (pe_op op_add pe_int (pe_callP (ok_L_draw T) (hr.mono (by decide)) (by rfl) pass0 (pa_cons (pv 0) (pa_cons (pv 3) pa_nil))))))
      (pss_cons (ps_if (pt_cmp (pc_eqI (pv 2) pe_int)) (pss_one (ps_ret (pe_tup (pa_cons pe_str (pa_cons (pv 4) pa_nil))))) pss_nil)
      (pss_one (ps_ret (pe_tup (pa_cons (pe_ix ix_list (pe_lst (pa_cons pe_str (pa_cons pe_str pa_nil))) (pe_op op_sub (pv 2) pe_int) (fun _ _ => rfl)) (pa_cons (pv 4) (pa_cons (pe_callP (ok_L_constant T) (hr.mono (by decide)) (by rfl) pass0 (pa_cons (pv 0) (pa_cons pe_int pa_nil))) pa_nil)))))))) pss_nil)
      (pss_cons (ps_set (i := 4) sc_L_wrap.nd rfl (Or.inl rfl) (pe_op op_add pe_int (pe_callP (ok_L_draw T) (hr.mono (by decide)) (by rfl) pass0 (pa_cons (pv 0) (pa_cons (pe_callB call_len_seq (by rfl) T.b_len (by decide +kernel) (pa_cons (pe_lc (own := [("_law_k", 5)]) (g := (gName 5)) (by rfl) sc_L_wrap.nd (pi_range2A (by rfl) T.b_range (pa_cons pe_int (pa_cons pe_int pa_nil))) (blkOk_by (own := [("_law_k", 5)]) (N := ["_law_pool_here", "_law_room", "_law_way", "_law_most", "_law_many", "_law_k"]) (sc := defScope s_L_wrap) (by decide +kernel)) (fun _ _ _ _ _ => (pg_name (i := 5) sc_L_wrap.nd rfl (Or.inl rfl))) (fun _ _ _ _ _ => pts_one (pt_cmp (pc_le (pe_op op_mul (pv 5) (pv 5)) (pv 1)))) (fun _ _ _ _ _ => (pv 5))) pa_nil)) pa_nil)))))
      (pss_one (ps_ret (pe_tup (pa_cons pe_str (pa_cons (pv 4) (pa_cons (pe_op op_add (pv 4) (pe_callP (ok_L_draw T) (hr.mono (by decide)) (by rfl) pass0 (pa_cons (pv 0) (pa_cons (pe_op op_add (pe_op op_sub (pe_op op_fdiv (pv 1) (pv 4)) (pv 4)) pe_int) pa_nil)))) pa_nil)))))))))), ?_⟩
    refine ⟨_, rfl, p, _, rfl, hp, by decide, by decide, fun y H1 y0 y1 d1 => ⟨_, rfl, _, _, rfl, _, _, rfl, ?_⟩⟩
    have mo : ∀ v : Int, v = (if r < 60 then r else 60) → 1 ≤ v ∧ v ≤ 60 ∧ v ≤ r := fun v hv => by
      rw [hv]
      split <;> omega
    generalize hv : (if r < 60 then r else 60) = v
    obtain ⟨v0, v1, v2⟩ := mo v hv.symm
    refine ⟨_, rfl, _, _, rfl, rfl, _, rfl, ifd (fun c => ?_) (fun c => ?_)⟩
    · have c : y < 4 := c
      obtain ⟨kd, mkW, hm, hy⟩ : ∃ (kd : Str) (mkW : Int → Wr), (∀ c, (mkW c).kind = kd ∧ (mkW c).nums = [c] ∧ (mkW c).use = 1 ∧ (0 ≤ c ∧ c ≤ 1000 → (mkW c).ok)) ∧ [V.str "plus", V.str "told", V.str "whole", V.str "told"][y.toNat]? = some (V.str kd) := by
        have y4 : y = 0 ∨ y = 1 ∨ y = 2 ∨ y = 3 := by omega
        rcases y4 with rfl | rfl | rfl | rfl
        · exact ⟨"plus", Wr.plus, fun c => ⟨rfl, rfl, rfl, id⟩, rfl⟩
        · exact ⟨"told", Wr.told, fun c => ⟨rfl, rfl, rfl, id⟩, rfl⟩
        · exact ⟨"whole", Wr.whole, fun c => ⟨rfl, rfl, rfl, id⟩, rfl⟩
        · exact ⟨"told", Wr.told, fun c => ⟨rfl, rfl, rfl, id⟩, rfl⟩
      have fin : ∀ (H2 : Hp), Drew p H H2 → ∀ c, 0 ≤ c → c ≤ 1000 → ∀ t, H2 t = none → Q (.ref t) (upd H2 t (.tup [.str kd, .int c])) := fun H2 d c c0 c1 t ht => by
        obtain ⟨e1, e2, e3, e4⟩ := hm c
        refine k t (mkW c) _ (e4 ⟨c0, c1⟩) (by omega) (new_before d hp ht) (d.new ht) ?_
        show (upd H2 t _) t = some (.tup (.str (mkW c).kind :: (mkW c).nums.map V.int))
        rw [upd_same, e1, e2]
        rfl
      refine ⟨(by show 4 ≤ sizeLine; decide), fun l hl => ?_⟩
      have d2 := d1.new (o := .lst [V.str "plus", V.str "told", V.str "whole", V.str "told"]) hl
      refine ⟨_, rfl, l, _, _, _, rfl, rfl, SqL.of upd_same, at_of (show y = ((y.toNat : Nat) : Int) by omega) hy, ?_⟩
      refine ⟨_, rfl, _, rfl, _, _, rfl, rfl, _, rfl, ifd (fun c2 => ?_) (fun c2 => ?_)⟩
      · exact ⟨p, _, rfl, d2.at_, by decide, by decide, fun z H3 z0 z1 d3 => ⟨(by show 2 ≤ sizeLine; decide), fun t ht => fin _ (d2.trans d3) z z0 z1 t ht⟩⟩
      · exact ⟨p, _, rfl, d2.at_, by decide, by decide, fun z H3 z0 z1 d3 => ⟨(by show 2 ≤ sizeLine; decide), fun t ht => fin _ (d2.trans d3) z z0 (by omega) t ht⟩⟩
    have c : ¬ y < 4 := c
    refine ⟨_, rfl, _, _, rfl, rfl, _, rfl, ifd (fun c2 => ?_) (fun c2 => ?_)⟩
    · have c2 : y < 7 := c2
      refine ⟨_, rfl, p, _, rfl, d1.at_, by decide, by decide, fun u H2 u0 u1 d2 => ?_⟩
      have d2 := d1.trans d2
      refine ⟨_, _, rfl, rfl, _, rfl, ifd (fun c3 => ?_) (fun c3 => ?_)⟩
      · refine ⟨_, rfl, ?_⟩
        have m0 := v0
        have m1 := (Int.le_refl v)
        refine ⟨_, rfl, _, _, rfl, rfl, _, rfl, ifd (fun c4 => ?_) (fun c4 => ?_)⟩
        · exact ⟨_, rfl, (by show 2 ≤ sizeLine; decide), fun t ht => k t (Wr.filled v) _ ⟨by omega, by omega⟩ (show v ≤ r by omega) (new_before d2 hp ht) (d2.new ht) upd_same⟩
        · have c4 : ¬ y = 6 := c4
          obtain ⟨kd, mkW, hm, hy⟩ : ∃ (kd : Str) (mkW : Int → Int → Wr), (∀ m c, (mkW m c).kind = kd ∧ (mkW m c).nums = [m, c] ∧ (mkW m c).use = m ∧ (1 ≤ m ∧ m ≤ 60 ∧ 0 ≤ c ∧ c ≤ 60 → (mkW m c).ok)) ∧ [V.str "pieces", V.str "cut"][(y - 4).toNat]? = some (V.str kd) := by
            have y4 : y = 4 ∨ y = 5 := by omega
            rcases y4 with rfl | rfl
            · exact ⟨"pieces", Wr.pieces, fun m c => ⟨rfl, rfl, rfl, id⟩, rfl⟩
            · exact ⟨"cut", Wr.cut, fun m c => ⟨rfl, rfl, rfl, id⟩, rfl⟩
          refine ⟨(by show 2 ≤ sizeLine; decide), fun l hl => ?_⟩
          have d5 := d2.new (o := .lst [V.str "pieces", V.str "cut"]) hl
          refine ⟨_, rfl, _, _, rfl, rfl, l, _, _, _, rfl, rfl, SqL.of upd_same, at_of (show y - 4 = (((y - 4).toNat : Nat) : Int) by omega) hy, _, rfl, _, rfl, ?_⟩
          refine ⟨p, _, rfl, d5.at_, by decide, by decide, fun z H6 z0 z1 d6 => ⟨(by show 3 ≤ sizeLine; decide), fun t ht => ?_⟩⟩
          have d6 := d5.trans d6
          obtain ⟨e1, e2, e3, e4⟩ := hm v z
          refine k t (mkW v z) _ (e4 ⟨by omega, by omega, z0, z1⟩) (by omega) (new_before d6 hp ht) (d6.new ht) ?_
          show (upd H6 t _) t = some (.tup (.str (mkW v z).kind :: (mkW v z).nums.map V.int))
          rw [upd_same, e1, e2]
          rfl
      · refine ⟨_, rfl, _, rfl, p, v, rfl, d2.at_, by omega, by omega, fun o H3 o0 o1 d3 => ⟨_, _, rfl, rfl, ?_⟩⟩
        have d3 := d2.trans d3
        have m0 := (show 1 ≤ 1 + o by omega)
        have m1 := (show 1 + o ≤ v by omega)
        refine ⟨_, rfl, _, _, rfl, rfl, _, rfl, ifd (fun c4 => ?_) (fun c4 => ?_)⟩
        · exact ⟨_, rfl, (by show 2 ≤ sizeLine; decide), fun t ht => k t (Wr.filled (1 + o)) _ ⟨by omega, by omega⟩ (show (1 + o) ≤ r by omega) (new_before d3 hp ht) (d3.new ht) upd_same⟩
        · have c4 : ¬ y = 6 := c4
          obtain ⟨kd, mkW, hm, hy⟩ : ∃ (kd : Str) (mkW : Int → Int → Wr), (∀ m c, (mkW m c).kind = kd ∧ (mkW m c).nums = [m, c] ∧ (mkW m c).use = m ∧ (1 ≤ m ∧ m ≤ 60 ∧ 0 ≤ c ∧ c ≤ 60 → (mkW m c).ok)) ∧ [V.str "pieces", V.str "cut"][(y - 4).toNat]? = some (V.str kd) := by
            have y4 : y = 4 ∨ y = 5 := by omega
            rcases y4 with rfl | rfl
            · exact ⟨"pieces", Wr.pieces, fun m c => ⟨rfl, rfl, rfl, id⟩, rfl⟩
            · exact ⟨"cut", Wr.cut, fun m c => ⟨rfl, rfl, rfl, id⟩, rfl⟩
          refine ⟨(by show 2 ≤ sizeLine; decide), fun l hl => ?_⟩
          have d5 := d3.new (o := .lst [V.str "pieces", V.str "cut"]) hl
          refine ⟨_, rfl, _, _, rfl, rfl, l, _, _, _, rfl, rfl, SqL.of upd_same, at_of (show y - 4 = (((y - 4).toNat : Nat) : Int) by omega) hy, _, rfl, _, rfl, ?_⟩
          refine ⟨p, _, rfl, d5.at_, by decide, by decide, fun z H6 z0 z1 d6 => ⟨(by show 3 ≤ sizeLine; decide), fun t ht => ?_⟩⟩
          have d6 := d5.trans d6
          obtain ⟨e1, e2, e3, e4⟩ := hm (1 + o) z
          refine k t (mkW (1 + o) z) _ (e4 ⟨by omega, by omega, z0, z1⟩) (by omega) (new_before d6 hp ht) (d6.new ht) ?_
          show (upd H6 t _) t = some (.tup (.str (mkW (1 + o) z).kind :: (mkW (1 + o) z).nums.map V.int))
          rw [upd_same, e1, e2]
          rfl
    · refine ⟨_, rfl, _, _, rfl, fun D hD => ?_⟩
      refine lc_range (lo := 1) (n := ((11 : Int) - 1).toNat) (Pv := fun j H' => Same H1 H' ∧ H' D = some (.lst ((sqs r j).map V.int))) ⟨up hD, upd_same⟩ ?_ ?_
      · rintro j H' hj ⟨hs, hy⟩
        have hj : j < 10 := hj
        have sl := (sqs_len r0 j).1
        refine ⟨rfl, _, rfl, _, rfl, _, _, rfl, rfl, .inl ⟨by omega, by omega⟩, _, rfl, _, _, rfl, rfl, _, rfl, ifd (fun z => ?_) (fun z => ?_)⟩
        · have z : (1 + (j : Int)) * (1 + (j : Int)) ≤ r := z
          refine ⟨_, rfl, _, hy, ?_, fun y o e => ?_, ?_⟩
          · rw [List.length_map, sizeLine_eq]
            omega
          · rw [upd_ne (ne_of_none e hD)]
            exact hs _ _ e
          · rw [upd_same, sqs_succ, if_pos z, List.map_append]
            rfl
        · have z : ¬ (1 + (j : Int)) * (1 + (j : Int)) ≤ r := z
          refine ⟨hs, ?_⟩
          rw [hy, sqs_succ, if_neg z, List.append_nil]
      · rintro H3 ⟨hs, hy⟩
        have d3 := d1.same hs
        have hy : H3 D = some (.lst ((sqs r 10).map V.int)) := hy
        obtain ⟨s1, s2, s3⟩ := sqs_len r0 10
        have s2 := s2 (by decide)
        refine ⟨D, _, rfl, .inl (SqL.of hy), p, _, rfl, d3.at_, by rw [List.length_map]; omega, by rw [List.length_map]; omega, fun o H4 o0 o1 d4 => ?_⟩
        rw [List.length_map] at o1
        have d4 := d3.trans d4
        refine ⟨_, _, rfl, rfl, ?_⟩
        have sq := s3 (1 + o) (by omega) (by omega)
        have q1 : 1 + o ≤ r / (1 + o) := Int.le_ediv_of_mul_le (by omega) sq
        have q2 : r / (1 + o) ≤ r := Int.ediv_le_self _ (by omega)
        refine ⟨_, rfl, _, rfl, _, rfl, _, rfl, _, rfl, _, _, rfl, rfl, ⟨(show 0 < 1 + o by omega), (show 1 + o < 1073741824 by omega)⟩, _, rfl, _, _, rfl, rfl, _, _, rfl, rfl, ?_⟩
        refine ⟨p, _, rfl, d4.at_, by omega, by omega, fun u H5 u0 u1 d5 => ?_⟩
        have d5 := d4.trans d5
        refine ⟨_, _, rfl, rfl, (by show 3 ≤ sizeLine; decide), fun t ht => ?_⟩
        have le2 : (1 + o + u) * (1 + o) ≤ r := Int.mul_le_of_le_ediv (by omega) (show 1 + o + u ≤ r / (1 + o) by omega)
        rw [Int.mul_comm] at le2
        exact k t (Wr.coded (1 + o) (1 + o + u)) _ ⟨by omega, by omega, by omega, by omega⟩ le2 (new_before d5 hp ht) (d5.new ht) upd_same
end
section
variable {P : Program} {w : World} {K : PySem.W.Frag} {mg : Str → Option Value} {base : Heap}
theorem ok_L_edge (T : Tx w K mg) : Prom P w K mg base CX0 4 "_law_edge" s_L_edge ["_law_pool_here", "_law_on_here", "_law_b", "_law_middle"] spLEdge := by
  refine Prom.of T.d_L_edge sc_L_edge (fun vs H Q E h => ?_) (fun _ _ _ _ _ _ us hl => match us, hl with | [_, _, _, _], _ => rfl) (fun f cdv A outer s H vs Q E hr h => ?_)
  · obtain ⟨p, l, xs, ws, b, m, rfl, _⟩ := h
    rfl
  · obtain ⟨p, l, xs, ws, b, m, rfl, hp, nlp, hl, hw, so, m0, k⟩ := h
    refine ⟨_, (pss_cons (ps_set (i := 4) sc_L_edge.nd rfl (Or.inl rfl) (pe_callP (ok_L_draw T) (hr.mono (by decide)) (by rfl) pass0 (pa_cons (pv 0) (pa_cons pe_int pa_nil))))
      (pss_cons (ps_if (pt_cmp (pc_eqI (pv 4) pe_int)) (pss_one (ps_ret (pe_callP (ok_L_draw T) (hr.mono (by decide)) (by rfl) pass0 (pa_cons (pv 0) (pa_cons pe_int pa_nil))))) pss_nil)
      (pss_cons (ps_if (pt_cmp (pc_eqI (pv 4) pe_int)) (pss_one (ps_ret (pe_callP (ok_L_length T) (hr.mono (by decide)) (by rfl) pass0 (pa_cons (pv 0) (pa_cons (pv 2) pa_nil))))) pss_nil)
      (pss_one (ps_ret (pe_callB (call_min2 rfl) (by rfl) T.b_min (by decide +kernel) (pa_cons (pe_op op_sub (pe_op op_pow pe_int pe_int) pe_int) (pa_cons (pe_callB (call_max2 rfl) (by rfl) T.b_max (by decide +kernel) (pa_cons pe_int (pa_cons (pe_op op_sub (pe_op op_add (pe_callP (ok_L_long T) (hr.mono (by decide)) (by rfl) pass0 (pa_cons (pv 1) (pa_cons (pv 3) (pa_cons (pv 2) pa_nil)))) (pe_callP (ok_L_draw T) (hr.mono (by decide)) (by rfl) pass0 (pa_cons (pv 0) (pa_cons pe_int pa_nil)))) pe_int) pa_nil))) pa_nil)))))))), ?_⟩
    refine ⟨_, rfl, p, _, rfl, hp, by decide, by decide, fun r H1 r0 r1 d1 => ?_⟩
    have hl1 := d1.kp _ _ nlp hl
    have hw1 := d1.tags hp hw
    refine ⟨_, rfl, _, _, rfl, rfl, _, rfl, ifd (fun c => ?_) (fun c => ?_)⟩
    · exact ⟨_, rfl, p, _, rfl, d1.at_, by decide, by decide, fun z H2 z0 z1 d2 => k _ _ z0 (Int.le_trans (show z ≤ 60 by omega) (by decide)) (d1.trans d2)⟩
    refine ⟨_, rfl, _, _, rfl, rfl, _, rfl, ifd (fun c => ?_) (fun c => ?_)⟩
    · exact ⟨_, rfl, _, rfl, p, b, rfl, d1.at_, so.b0, so.b1, fun z H2 z0 z1 d2 => k _ _ z0 z1 (d1.trans d2)⟩
    refine ⟨_, _, rfl, rfl, ⟨by decide, by decide, by decide⟩, _, _, rfl, rfl, _, rfl, _, rfl, _, rfl, l, xs, ws, m, b, rfl, hl1, hw1, so.ok, so.b0, so.b1, m0, fun H2 s2 => ?_⟩
    have d2 := d1.same s2
    refine ⟨_, rfl, p, _, rfl, d2.at_, by decide, by decide, fun z H3 z0 z1 d3 => ⟨_, _, rfl, rfl, _, _, rfl, rfl, _, _, rfl, _, _, rfl, ?_⟩⟩
    generalize grS b ws m + z - 5 = x
    have e : (10 : Int) ^ (60 : Int).toNat = 10 ^ 60 := rfl
    rw [e]
    refine k _ _ ?_ ?_ (d2.trans d3)
    · split <;> split <;> omega
    · split <;> split <;> omega
theorem ok_L_move (T : Tx w K mg) : Prom P w K mg base CX0 5 "_law_move" s_L_move ["_law_pool_here", "_law_on_here", "_law_b", "_law_middle"] spLMove := by
  refine Prom.of T.d_L_move sc_L_move (fun vs H Q E h => ?_) (fun _ _ _ _ _ _ us hl => match us, hl with | [_, _, _, _], _ => rfl) (fun f cdv A outer s H vs Q E hr h => ?_)
  · obtain ⟨p, l, xs, ws, b, m, rfl, _⟩ := h
    rfl
  · obtain ⟨p, l, xs, ws, b, m, rfl, hp, nlp, hl, hw, so, m0, k⟩ := h
    refine ⟨_, (pss_cons (ps_set (i := 4) sc_L_move.nd rfl (Or.inl rfl) (pe_callP (ok_L_draw T) (hr.mono (by decide)) (by rfl) pass0 (pa_cons (pv 0) (pa_cons pe_int pa_nil))))
      (pss_cons (ps_if (PW.pt (pw_and (pt_cmp (pc_lt (pv 4) pe_int)) (pw_and1 (pt_cmp (pc_lt (pe_callB call_len_seq (by rfl) T.b_len (by decide +kernel) (pa_cons (pv 1) pa_nil)) pe_int))))) (pss_one (ps_ret (pe_tup (pa_cons pe_str (pa_cons (pe_callP (ok_L_wrap T) (hr.mono (by decide)) (by rfl) pass0 (pa_cons (pv 0) (pa_cons (pe_op op_fdiv pe_int (pe_callP (ok_L_fine T) (hr.mono (by decide)) (by rfl) pass0 (pa_cons (pv 1) pa_nil))) pa_nil))) pa_nil))))) pss_nil)
      (pss_one (ps_ret (pe_ifExp (PW.pt (pw_and (pt_cmp (pc_eqI (pv 4) pe_int)) (pw_and1 (pt_cmpR (op_neD hr.units) (pv 1) (pe_lst pa_nil) (nomark _))))) (pe_tup (pa_cons pe_str pa_nil)) (pe_tup (pa_cons pe_str (pa_cons (pe_callP (ok_L_edge T) (hr.mono (by decide)) (by rfl) pass0 (pa_cons (pv 0) (pa_cons (pv 1) (pa_cons (pv 2) (pa_cons (pv 3) pa_nil))))) pa_nil)))))))), ?_⟩
    refine ⟨_, rfl, p, _, rfl, hp, by decide, by decide, fun r H1 r0 r1 d1 => ?_⟩
    have hl1 := d1.kp _ _ nlp hl
    have hw1 := d1.tags hp hw
    have hlx := hw.len
    have fp : 1 ≤ fineL ws := fine_pos (ws := ws) so.ok (p := 1) (by decide)
    have f2 := so.fine
    refine ⟨_, rfl, _, _, rfl, rfl, _, rfl, ?_⟩
    refine ifd (fun c1 => ?_) (fun c1 => iteF ?_)
    · refine ⟨_, rfl, l, xs, rfl, .inl (SqL.of hl1), _, _, rfl, rfl, _, rfl, ifd (fun c2 => ?_) (fun c2 => ?_)⟩
      · have c2 : (xs.length : Int) < 6 := c2
        refine ⟨_, rfl, _, rfl, l, xs, ws, rfl, hl1, hw1, so.ok, fun H2 s2 => ⟨_, _, rfl, rfl, ⟨by omega, by omega⟩, ?_⟩⟩
        have d2 := d1.same s2
        have q1 : 1 ≤ 120 / fineL ws := Int.le_ediv_of_mul_le (by omega) (by omega)
        have q2 : 120 / fineL ws ≤ 120 := Int.ediv_le_self _ (by decide)
        refine ⟨p, _, rfl, d2.at_, q1, q2, fun q a H3 ha hu nq d3 ta => ⟨(by show 2 ≤ sizeLine; decide), fun t ht => ?_⟩⟩
        have d3 := d2.trans d3
        exact k t (.push a) _ (wrap_room so (by omega) ha hu) (new_before d3 hp ht) (d3.new ht) ⟨q, upd_same, up ht _ _ ta⟩
      · refine ⟨_, rfl, _, _, rfl, rfl, _, rfl, ifd (fun c3 => ?_) (fun c3 => iteF ?_)⟩
        · refine ⟨_, rfl, Nat.zero_le _, fun e he => ?_⟩
          have s2 := up (o := .lst []) he
          refine ⟨_, _, .lst (SqL.of (s2 _ _ hl1)) (hw1.same s2).dp, .lst (SqL.of upd_same) .nil, (tags_shp ws).shaped, rfl, _, rfl, ?_⟩
          have d2 := d1.same s2
          have hl2 := s2 _ _ hl1
          have hw2 := hw1.same s2
          generalize upd H1 e (.lst []) = H2 at s2 d2 hl2 hw2 ⊢
          cases ws with
          | nil =>
            refine ifb_neg rfl ?_
            refine ⟨_, rfl, _, rfl, _, rfl, _, rfl, p, l, xs, _, b, m, rfl, d2.at_, nlp, hl2, hw2, so, m0, fun z H3 z0 z1 d3 => ⟨(by show 2 ≤ sizeLine; decide), fun t ht => ?_⟩⟩
            have d3 := d2.trans d3
            exact k t (.bound z) _ ⟨z0, z1⟩ (new_before d3 hp ht) (d3.new ht) upd_same
          | cons a0 wr =>
            refine ifb_pos rfl ?_
            exact ⟨(by show 1 ≤ sizeLine; decide), fun t ht => k t .pop _ (fun z => by cases z) (new_before d2 hp ht) (d2.new ht) upd_same⟩
        · refine ⟨_, rfl, _, rfl, _, rfl, _, rfl, p, l, xs, _, b, m, rfl, d1.at_, nlp, hl1, hw1, so, m0, fun z H3 z0 z1 d3 => ⟨(by show 2 ≤ sizeLine; decide), fun t ht => ?_⟩⟩
          have d3 := d1.trans d3
          exact k t (.bound z) _ ⟨z0, z1⟩ (new_before d3 hp ht) (d3.new ht) upd_same
    · refine ⟨_, rfl, _, _, rfl, rfl, _, rfl, ifd (fun c3 => ?_) (fun c3 => iteF ?_)⟩
      · refine ⟨_, rfl, Nat.zero_le _, fun e he => ?_⟩
        have s2 := up (o := .lst []) he
        refine ⟨_, _, .lst (SqL.of (s2 _ _ hl1)) (hw1.same s2).dp, .lst (SqL.of upd_same) .nil, (tags_shp ws).shaped, rfl, _, rfl, ?_⟩
        have d2 := d1.same s2
        have hl2 := s2 _ _ hl1
        have hw2 := hw1.same s2
        generalize upd H1 e (.lst []) = H2 at s2 d2 hl2 hw2 ⊢
        cases ws with
        | nil =>
          refine ifb_neg rfl ?_
          refine ⟨_, rfl, _, rfl, _, rfl, _, rfl, p, l, xs, _, b, m, rfl, d2.at_, nlp, hl2, hw2, so, m0, fun z H3 z0 z1 d3 => ⟨(by show 2 ≤ sizeLine; decide), fun t ht => ?_⟩⟩
          have d3 := d2.trans d3
          exact k t (.bound z) _ ⟨z0, z1⟩ (new_before d3 hp ht) (d3.new ht) upd_same
        | cons a0 wr =>
          refine ifb_pos rfl ?_
          exact ⟨(by show 1 ≤ sizeLine; decide), fun t ht => k t .pop _ (fun z => by cases z) (new_before d2 hp ht) (d2.new ht) upd_same⟩
      · refine ⟨_, rfl, _, rfl, _, rfl, _, rfl, p, l, xs, _, b, m, rfl, d1.at_, nlp, hl1, hw1, so, m0, fun z H3 z0 z1 d3 => ⟨(by show 2 ≤ sizeLine; decide), fun t ht => ?_⟩⟩
        have d3 := d1.trans d3
        exact k t (.bound z) _ ⟨z0, z1⟩ (new_before d3 hp ht) (d3.new ht) upd_same
theorem ok_L_put (T : Tx w K mg) : Prom P w K mg base CX0 1 "_law_put" s_L_put ["_law_on_here", "_law_move_here"] spLPut := by
  refine Prom.of T.d_L_put sc_L_put (fun vs H Q E h => ?_) (fun _ _ _ _ _ _ us hl => match us, hl with | [_, _], _ => rfl) (fun f cdv A outer s H vs Q E hr h => ?_)
  · obtain ⟨l, m, xs, ws, st, rfl, _⟩ := h
    rfl
  · obtain ⟨l, m, xs, ws, st, rfl, hl, hw, hlen, hm, hpop, k⟩ := h
    have hlx := hw.len
    refine ⟨_, (pss_cons (ps_if (pt_cmpR op_eq (pe_ix ix_tup (pv 1) pe_int (fun _ _ => rfl)) pe_str (nomark _)) (pss_one (ps_expr (pe_bm PySem.F.plainAttrs_list PySem.F.slot_list_append PySem.F.type_list_append mt_append (pv 0) (pa_cons (pe_ix ix_tup (pv 1) pe_int (fun _ _ => rfl)) pa_nil)))) pss_nil)
      (pss_one (ps_if (pt_cmpR op_eq (pe_ix ix_tup (pv 1) pe_int (fun _ _ => rfl)) pe_str (nomark _)) (pss_one (ps_expr (pe_bm0 PySem.F.plainAttrs_list PySem.F.slot_list_pop PySem.F.type_list_pop mt_pop (pv 0)))) pss_nil))), ?_⟩
    cases st with
    | push a =>
      obtain ⟨q, hm, ht⟩ := hm
      have nm : m ≠ l := fun z => by rw [z, hl] at hm; cases hm
      refine ⟨_, rfl, m, _, _, _, rfl, rfl, SqT.of hm, rfl, rfl, _, rfl, ifd_pos rfl ?_⟩
      refine ⟨_, rfl, .inl ⟨rfl, _, SqL.of hl⟩, _, rfl, m, _, _, _, rfl, rfl, SqT.of hm, rfl, l, _, _, rfl, rfl, hl, ?_, ?_⟩
      · rw [sizeLine_eq]
        omega
      · refine ⟨_, rfl, m, _, _, _, rfl, rfl, SqT.of (by rw [upd_ne nm]; exact hm), rfl, rfl, _, rfl, ifs_neg (show ("push" : Str) ≠ "pop" by decide) ?_⟩
        exact k _ (hw.snoc ht)
    | pop =>
      have hm : H m = _ := hm
      have nm : m ≠ l := fun z => by rw [z, hl] at hm; cases hm
      have hne := hpop rfl
      have hx : 0 < xs.length := by
        have : ws.length ≠ 0 := fun z => hne (List.eq_nil_of_length_eq_zero z)
        omega
      refine ⟨_, rfl, m, _, _, _, rfl, rfl, SqT.of hm, rfl, rfl, _, rfl, ifs_neg (show ("pop" : Str) ≠ "push" by decide) ?_⟩
      refine ⟨_, rfl, m, _, _, _, rfl, rfl, SqT.of hm, rfl, rfl, _, rfl, ifd_pos rfl ?_⟩
      exact ⟨_, rfl, .inl ⟨rfl, _, SqL.of hl⟩, l, _, xs[xs.length - 1], rfl, rfl, hl, List.getElem?_eq_getElem (by omega), k _ hw.dropLast⟩
    | bound n =>
      have hm : H m = _ := hm
      refine ⟨_, rfl, m, _, _, _, rfl, rfl, SqT.of hm, rfl, rfl, _, rfl, ifs_neg (show ("bound" : Str) ≠ "push" by decide) ?_⟩
      refine ⟨_, rfl, m, _, _, _, rfl, rfl, SqT.of hm, rfl, rfl, _, rfl, ifs_neg (show ("bound" : Str) ≠ "pop" by decide) ?_⟩
      have k2 := k xs hw
      rw [upd_id hl] at k2
      exact k2
end
noncomputable def trailL (b : Int) (ss : List Stp) (n : Int) (k : Nat) : List Int := (List.range k).map fun i => (trS b (ss.take i) n).1
theorem trailL_succ (b : Int) (ss : List Stp) (n : Int) (k : Nat) : trailL b ss n (k + 1) = trailL b ss n k ++ [(trS b (ss.take k) n).1] := by
  unfold trailL
  rw [List.range_succ, List.map_append]
  rfl
theorem trailL_len (b : Int) (ss : List Stp) (n : Int) (k : Nat) : (trailL b ss n k).length = k := by
  unfold trailL
  rw [List.length_map, List.length_range]
theorem trailL_at {b : Int} {ss : List Stp} {n : Int} {k i : Nat} (h : i < k) : (trailL b ss n k)[i]? = some (trS b (ss.take i) n).1 := by
  unfold trailL
  rw [List.getElem?_map, List.getElem?_range h]
  rfl
def IsStop (b : Int) (ss : List Stp) (n r : Int) : Prop := (r = -1 ∧ fitsP b ss n) ∨ ∃ (i : Nat) (m : Int), r = (i : Nat) ∧ ss[i]? = some (.bound m) ∧ m < grS b (onL (ss.take i)) n ∧ fitsP b (ss.take i) n
theorem inner_len (b : Int) (ws : List Wr) (n : Int) : (inner b ws n).length = ws.length := by
  unfold inner
  rw [List.length_map, List.length_range]
theorem atI_last1 {xs : List V} {y : V} : atI (xs ++ [y]) (-1) = some y := atI_last xs y
def spLTrail : Sp := fun vs H Q _ => ∃ (l : Addr) (xs : List V) (ss : List Stp) (n b : Int), vs = [.ref l, .int n, .int b] ∧ H l = some (.lst xs) ∧ MovesAt H xs ss ∧ RoadB b ss ∧ ss.length ≤ 1000 ∧ 2 ≤ b ∧ b ≤ 256 ∧ 0 ≤ n ∧ ∀ q H', H q = none → Same H H' → H' q = some (.lst ((trailL b ss n (ss.length + 1)).map V.int)) → Q (.ref q) H'
def spLStop : Sp := fun vs H Q _ => ∃ (l : Addr) (xs : List V) (ss : List Stp) (n b : Int), vs = [.ref l, .int n, .int b] ∧ H l = some (.lst xs) ∧ MovesAt H xs ss ∧ RoadB b ss ∧ ss.length ≤ 1000 ∧ 2 ≤ b ∧ b ≤ 256 ∧ 0 ≤ n ∧ ∀ r H', IsStop b ss n r → Same H H' → Q (.int r) H'
section
variable {P : Program} {w : World} {K : PySem.W.Frag} {mg : Str → Option Value} {base : Heap}
theorem ok_L_moves (T : Tx w K mg) : Prom P w K mg base CX0 6 "_law_moves" s_L_moves ["_law_pool_here", "_law_many", "_law_b", "_law_middle"] spLMoves := by
  refine Prom.of T.d_L_moves sc_L_moves (fun vs H Q E h => ?_) (fun _ _ _ _ _ _ us hl => match us, hl with | [_, _, _, _], _ => rfl) (fun f cdv A outer s H vs Q E hr h => ?_)
  · obtain ⟨p, n, b, m, rfl, _⟩ := h
    rfl
  · obtain ⟨p, n, b, m, rfl, hp, n0, n1, b0, b1, m0, k⟩ := h
    refine ⟨_, (pss_cons (ps_par (i := 4) (j := 5) (by rfl) sc_L_moves.nd rfl rfl (by decide) rfl rfl (pa_cons (pe_lst pa_nil) (pa_cons (pe_lst pa_nil) pa_nil)) (by rfl))
      (pss_cons (ps_for PassesOwn.never (by rfl) (pi_range1 (by rfl) T.b_range (pa_cons (pv 1) pa_nil)) (pg_name (i := 6) sc_L_moves.nd rfl (Or.inl rfl)) (pss_cons (ps_set (i := 7) sc_L_moves.nd rfl (Or.inl rfl) (pe_callP (ok_L_move T) (hr.mono (by decide)) (by rfl) pass0 (pa_cons (pv 0) (pa_cons (pv 5) (pa_cons (pv 2) (pa_cons (pv 3) pa_nil))))))
      (pss_cons (ps_expr (pe_bm PySem.F.plainAttrs_list PySem.F.slot_list_append PySem.F.type_list_append mt_append (pv 4) (pa_cons (pv 7) pa_nil)))
      (pss_one (ps_expr (pe_callP (ok_L_put T) (hr.mono (by decide)) (by rfl) pass0 (pa_cons (pv 5) (pa_cons (pv 7) pa_nil))))))))
      (pss_one (ps_ret (pv 4))))), ?_⟩
    refine ⟨Nat.zero_le _, fun lf hlf => ⟨Nat.zero_le _, fun lo hlo => ⟨_, _, rfl, ?_⟩⟩⟩
    have nfo : lf ≠ lo := ne_of_none upd_same hlo
    have nlo : H lo = none := same_before (up hlf) hlo
    have nfp := hp.ne hlf
    have nop := hp.ne nlo
    have d0 : Drew p H (upd (upd H lf (.lst [])) lo (.lst [])) := ((Drew.refl hp).new hlf).new hlo
    refine ⟨_, rfl, n, rfl, by omega, by omega, for_range (lo := 0) (fun i σ H' => Drew p H H' ∧ ∃ (xs ys : List V) (ss : List Stp) (v1 v2 : Option V), H' lf = some (.lst xs) ∧ H' lo = some (.lst ys) ∧ MovesAt H' xs ss ∧ TagsAt H' ys (onL ss) ∧ RoadB b ss ∧ ss.length = i ∧
      σ = [some (.ref p), some (.int n), some (.int b), some (.int m), some (.ref lf), some (.ref lo), v1, v2]) ⟨d0, [], [], [], none, none, up hlo _ _ upd_same, upd_same, .nil, .nil, .nil, rfl, rfl⟩ ?_ ?_⟩
    · rintro i σ H' hi ⟨hd, xs, ys, ss, v1, v2, hf, ho, hm, ht, rb, hlen, rfl⟩
      have hi : i < n.toNat := hi
      have so := rb.stk b0 b1
      refine ⟨_, rfl, _, rfl, _, rfl, _, rfl, p, lo, ys, onL ss, b, m, rfl, hd.at_, nop, ho, ht, so, m0, fun q st H2 sok nq d2 mv => ?_⟩
      have hf2 := d2.kp _ _ nfp hf
      have ho2 := d2.kp _ _ nop ho
      have hm2 := hm.drew d2 hd.at_
      have ht2 := d2.tags hd.at_ ht
      have hd2 := hd.trans d2
      refine ⟨_, rfl, .inl ⟨rfl, _, SqL.of hf2⟩, _, rfl, lf, _, _, rfl, rfl, hf2, ?_, ?_⟩
      · rw [hm.len, hlen, sizeLine_eq]
        omega
      have ho3 : (upd H2 lf (.lst (xs ++ [.ref q]))) lo = some (.lst ys) := by rw [upd_ne (Ne.symm nfo)]; exact ho2
      have ht3 := ht2.put (zs := xs ++ [.ref q]) hf2
      have mv3 := mv.put (zs := xs ++ [.ref q]) hf2
      refine ⟨_, rfl, _, rfl, lo, q, ys, onL ss, st, rfl, ho3, ht3, so.len, mv3, fun e => ?_, fun ys' ht4 => ?_⟩
      · rw [e] at sok
        exact sok
      refine ⟨(hd2.put hlf nfp).put nlo nop, xs ++ [.ref q], ys', ss ++ [st], _, _, ?_, upd_same, ?_, ?_, .snoc rb sok, ?_, rfl⟩
      · rw [upd_ne nfo, upd_same]
      · exact ((hm2.snoc mv).put hf2).put ho3
      · rw [onL_snoc]
        exact ht4.put ho3
      · rw [List.length_append, hlen]
        rfl
    · rintro σ H' ⟨hd, xs, ys, ss, v1, v2, hf, ho, hm, ht, rb, hlen, rfl⟩
      have hlen : ss.length = n.toNat := hlen
      exact ⟨_, rfl, k lf xs ss H' rb (by omega) hlf hd hf hm⟩
end
/-- what is no list, and no such instance, stays -/
structure Keeps (K : PySem.W.Frag) (H H' : Hp) : Prop where
  tup : ∀ {q xs}, H q = some (.tup xs) → H' q = some (.tup xs)
  wrap : ∀ {q dx fs}, H q = some (.ins (He.ga K "Wrap") dx fs) → H' q = some (.ins (He.ga K "Wrap") dx fs)
  stack : ∀ {q dx fs}, H q = some (.ins (He.ga K "Stack") dx fs) → H' q = some (.ins (He.ga K "Stack") dx fs)
theorem Keeps.same {K : PySem.W.Frag} {H H' : Hp} (s : Same H H') : Keeps K H H' := ⟨fun h => s _ _ h, fun h => s _ _ h, fun h => s _ _ h⟩
theorem Keeps.lst {K : PySem.W.Frag} {H : Hp} {l : Addr} {ys zs : List V} (hl : H l = some (.lst ys)) : Keeps K H (upd H l (.lst zs)) :=
  ⟨fun {q xs} e => by rw [upd_ne (fun z => by rw [z, hl] at e; cases e)]; exact e, fun {q xs fs} e => by rw [upd_ne (fun z => by rw [z, hl] at e; cases e)]; exact e, fun {q xs fs} e => by rw [upd_ne (fun z => by rw [z, hl] at e; cases e)]; exact e⟩
theorem Keeps.trans {K : PySem.W.Frag} {H H1 H2 : Hp} (a : Keeps K H H1) (b : Keeps K H1 H2) : Keeps K H H2 := ⟨fun h => b.tup (a.tup h), fun h => b.wrap (a.wrap h), fun h => b.stack (a.stack h)⟩
/-- only the road at r changes -/
theorem Keeps.road {K : PySem.W.Frag} {H H' : Hp} {r dr : Addr} {fs : List (Str × V)} (n1 : He.ga K "Road" ≠ He.ga K "Wrap") (n2 : He.ga K "Road" ≠ He.ga K "Stack") (hr : H r = some (.ins (He.ga K "Road") dr fs)) (k : Kp r H H') : Keeps K H H' :=
  ⟨fun {q xs} e => k _ _ (fun z => by rw [z, hr] at e; cases e) e, fun {q xs fs} e => k _ _ (fun z => by rw [z, hr] at e; exact n1 (by injection e with e; injection e)) e, fun {q xs fs} e => k _ _ (fun z => by rw [z, hr] at e; exact n2 (by injection e with e; injection e)) e⟩
theorem WrapAt.keeps {K : PySem.W.Frag} {H H' : Hp} {q : Addr} {a : Wr} (h : WrapAt K H q a) (k : Keeps K H H') : WrapAt K H' q a := by
  obtain ⟨dx, p, h1, h2⟩ := h
  exact ⟨dx, p, k.wrap h1, k.tup h2⟩
theorem WrapsAt.keeps {K : PySem.W.Frag} {H H' : Hp} {xs : List V} {ws : List Wr} (h : WrapsAt K H xs ws) (k : Keeps K H H') : WrapsAt K H' xs ws := by
  induction h with
  | nil => exact .nil
  | cons h _ ih => exact .cons (h.keeps k) ih
theorem WrapsAt.dropLast {K : PySem.W.Frag} {H : Hp} {xs : List V} {ws : List Wr} (h : WrapsAt K H xs ws) : WrapsAt K H xs.dropLast ws.dropLast := by
  induction h with
  | nil => exact .nil
  | cons h r ih =>
    cases r with
    | nil => exact .nil
    | cons h2 r2 => exact .cons h ih
theorem StkAt.keeps {K : PySem.W.Frag} {H H' : Hp} {q : Addr} {b : Int} {ws : List Wr} (h : StkAt K H q b ws) (k : Keeps K H H') : StkAt K H' q b ws := by
  obtain ⟨dx, t, xs, h1, h2, h3⟩ := h
  exact ⟨dx, t, xs, k.stack h1, k.tup h2, h3.keeps k⟩
/-! ### roads -/
def StepAt (K : PySem.W.Frag) (H : Hp) (p : Addr) : Stp → Prop
  | .push a => ∃ q, H p = some (.tup [.str "push", .ref q]) ∧ WrapAt K H q a
  | .pop => H p = some (.tup [.str "pop"])
  | .bound n => H p = some (.tup [.str "bound", .int n])
theorem StepAt.keeps {K : PySem.W.Frag} {H H' : Hp} {p : Addr} {s : Stp} (h : StepAt K H p s) (k : Keeps K H H') : StepAt K H' p s := by
  cases s with
  | push a =>
    obtain ⟨q, h1, h2⟩ := h
    exact ⟨q, k.tup h1, h2.keeps k⟩
  | pop => exact k.tup h
  | bound n => exact k.tup h
inductive StepsAt (K : PySem.W.Frag) (H : Hp) : List V → List Stp → Prop where
  | nil : StepsAt K H [] []
  | cons {p : Addr} {s : Stp} {xs : List V} {ss : List Stp} (h : StepAt K H p s) (r : StepsAt K H xs ss) : StepsAt K H (.ref p :: xs) (s :: ss)
theorem StepsAt.len {K : PySem.W.Frag} {H : Hp} {xs : List V} {ss : List Stp} (h : StepsAt K H xs ss) : xs.length = ss.length := by
  induction h with
  | nil => rfl
  | cons _ _ ih => exact congrArg (· + 1) ih
theorem StepsAt.get {K : PySem.W.Frag} {H : Hp} {xs : List V} {ss : List Stp} (h : StepsAt K H xs ss) : ∀ {i : Nat} {x : V}, xs[i]? = some x → ∃ (p : Addr) (s : Stp), x = .ref p ∧ ss[i]? = some s ∧ StepAt K H p s := by
  induction h with
  | nil =>
    intro i x e
    simp at e
  | cons h _ ih =>
    intro i x e
    cases i with
    | zero =>
      simp at e
      exact ⟨_, _, e.symm, rfl, h⟩
    | succ i => exact ih (by simpa using e)
theorem StepsAt.keeps {K : PySem.W.Frag} {H H' : Hp} {xs : List V} {ss : List Stp} (h : StepsAt K H xs ss) (k : Keeps K H H') : StepsAt K H' xs ss := by
  induction h with
  | nil => exact .nil
  | cons h _ ih => exact .cons (h.keeps k) ih
theorem StepsAt.snoc {K : PySem.W.Frag} {H : Hp} {xs : List V} {ss : List Stp} {p : Addr} {s : Stp} (h : StepsAt K H xs ss) (hx : StepAt K H p s) : StepsAt K H (xs ++ [.ref p]) (ss ++ [s]) := by
  induction h with
  | nil => exact .cons hx .nil
  | cons h _ ih => exact .cons h ih
theorem StepsAt.take {K : PySem.W.Frag} {H : Hp} {xs : List V} {ss : List Stp} (h : StepsAt K H xs ss) : ∀ i : Nat, StepsAt K H (xs.take i) (ss.take i) := by
  induction h with
  | nil => intro i; simp; exact .nil
  | cons h _ ih =>
    intro i
    cases i with
    | zero => exact .nil
    | succ i => exact .cons h (ih i)
def roadFsZ (z : Bool) (b : Int) (t q : Addr) : List (Str × V) := [("base", .int b), ("steps", .ref t), ("stack", .ref q), ("busy", .bl z)]
abbrev roadFs (b : Int) (t q : Addr) : List (Str × V) := roadFsZ false b t q
/-- a road stands there; z: busy -/
structure RoadZ (K : PySem.W.Frag) (H : Hp) (r : Addr) (b : Int) (ss : List Stp) (z : Bool) : Prop where
  at_ : ∃ dx t q xs, H r = some (.ins (He.ga K "Road") dx (roadFsZ z b t q)) ∧ H t = some (.tup xs) ∧ StepsAt K H xs ss ∧ StkAt K H q b (onL ss)
  rb : RoadB b ss
  b0 : 2 ≤ b
  b1 : b ≤ 256
  len : ss.length ≤ 1000
abbrev RoadAt (K : PySem.W.Frag) (H : Hp) (r : Addr) (b : Int) (ss : List Stp) : Prop := RoadZ K H r b ss false
theorem RoadZ.same {K : PySem.W.Frag} {H H' : Hp} {r : Addr} {b : Int} {ss : List Stp} {z : Bool} (h : RoadZ K H r b ss z) (s : Same H H') : RoadZ K H' r b ss z := by
  obtain ⟨⟨dx, t, q, xs, h1, h2, h3, h4⟩, rest⟩ := h
  exact ⟨⟨dx, t, q, xs, s _ _ h1, s _ _ h2, h3.keeps (.same s), h4.same s⟩, by assumption, by assumption, by assumption, by assumption⟩
theorem RoadZ.kp {K : PySem.W.Frag} {H H' : Hp} {r l : Addr} {ys : List V} {b : Int} {ss : List Stp} {z : Bool} (h : RoadZ K H r b ss z) (hl : H l = some (.lst ys)) (k : Kp l H H') : RoadZ K H' r b ss z := by
  obtain ⟨⟨dx, t, q, xs, h1, h2, h3, h4⟩, rest⟩ := h
  have ks : Keeps K H H' := ⟨fun {q xs} e => k _ _ (fun z => by rw [z, hl] at e; cases e) e, fun {q xs fs} e => k _ _ (fun z => by rw [z, hl] at e; cases e) e, fun {q xs fs} e => k _ _ (fun z => by rw [z, hl] at e; cases e) e⟩
  exact ⟨⟨dx, t, q, xs, k _ _ (fun z => by rw [z, hl] at h1; cases h1) h1, ks.tup h2, h3.keeps ks, h4.keeps ks⟩, by assumption, by assumption, by assumption, by assumption⟩
theorem RoadAt.same {K : PySem.W.Frag} {H H' : Hp} {r : Addr} {b : Int} {ss : List Stp} (h : RoadAt K H r b ss) (s : Same H H') : RoadAt K H' r b ss := RoadZ.same h s
theorem RoadAt.kp {K : PySem.W.Frag} {H H' : Hp} {r l : Addr} {ys : List V} {b : Int} {ss : List Stp} (h : RoadAt K H r b ss) (hl : H l = some (.lst ys)) (k : Kp l H H') : RoadAt K H' r b ss := RoadZ.kp h hl k
def spFree (K : PySem.W.Frag) : Sp := fun vs H Q _ => ∃ (r : Addr) (b : Int) (ss : List Stp), vs = [.ref r] ∧ RoadAt K H r b ss ∧ Q .non H
def spBehind (K : PySem.W.Frag) : Sp := fun vs H Q _ => ∃ (t : Addr) (xs : List V) (b : Int) (ss : List Stp), vs = [.int b, .ref t] ∧ H t = some (.tup xs) ∧ StepsAt K H xs ss ∧ RoadB b ss ∧ 2 ≤ b ∧ b ≤ 256 ∧ ∀ q H', H q = none → Same H H' → StkAt K H' q b (onL ss) → Q (.ref q) H'
def spCheckPush (K : PySem.W.Frag) : Sp := fun vs H Q _ => ∃ (q r : Addr) (b : Int) (ws : List Wr) (a : Wr), vs = [.ref q, .ref r] ∧ StkAt K H q b ws ∧ WrapAt K H r a ∧ StkOk b (ws ++ [a]) ∧ ∀ H', Same H H' → Q .non H'
def spAddStep (K : PySem.W.Frag) : Sp := fun vs H Q _ => ∃ (z : Bool) (r t : Addr) (b : Int) (ss : List Stp) (s : Stp), vs = [.ref r, .ref t] ∧ RoadZ K H r b ss z ∧ ss.length < 1000 ∧ StepAt K H t s ∧ stepOk b (onL ss) s ∧ ∀ H', Kp r H H' → RoadZ K H' r b (ss ++ [s]) z → Q .non H'
def spRoad (K : PySem.W.Frag) : Sp := fun vs H Q _ => ∃ (b : Int), vs = [.int b] ∧ 2 ≤ b ∧ b ≤ 256 ∧ ∀ q H', H q = none → Same H H' → RoadAt K H' q b [] → Q (.ref q) H'
def spPush (K : PySem.W.Frag) : Sp := fun vs H Q _ => ∃ (r q : Addr) (b : Int) (ss : List Stp) (a : Wr), vs = [.ref r, .ref q] ∧ RoadAt K H r b ss ∧ ss.length < 1000 ∧ WrapAt K H q a ∧ StkOk b (onL ss ++ [a]) ∧ ∀ H', Kp r H H' → RoadAt K H' r b (ss ++ [.push a]) → Q .non H'
def spPop (K : PySem.W.Frag) : Sp := fun vs H Q _ => ∃ (r : Addr) (b : Int) (ss : List Stp), vs = [.ref r] ∧ RoadAt K H r b ss ∧ ss.length < 1000 ∧ onL ss ≠ [] ∧ ∀ H', Kp r H H' → RoadAt K H' r b (ss ++ [.pop]) → Q .non H'
def spBound (K : PySem.W.Frag) : Sp := fun vs H Q _ => ∃ (r : Addr) (b n : Int) (ss : List Stp), vs = [.ref r, .int n] ∧ RoadAt K H r b ss ∧ ss.length < 1000 ∧ 0 ≤ n ∧ n ≤ 10 ^ 60 - 1 ∧ ∀ H', Kp r H H' → RoadAt K H' r b (ss ++ [.bound n]) → Q .non H'
section
variable {P : Program} {w : World} {K : PySem.W.Frag} {mg : Str → Option Value} {base : Heap}
theorem ok_check_free (T : Tx w K mg) : Prom P w K mg base CX0 1 "check_free" s_check_free ["road"] (spFree K) := by
  refine Prom.of T.d_check_free sc_check_free (fun vs H Q E h => ?_) (fun _ _ _ _ _ _ us hl => match us, hl with | [_], _ => rfl) (fun f cdv A outer s H vs Q E hr h => ?_)
  · obtain ⟨r, b, ss, rfl, _⟩ := h
    rfl
  · obtain ⟨r, b, ss, rfl, hR, k⟩ := h
    obtain ⟨dx, t, q, xs, h1, h2, h3, h4⟩ := hR.at_
    refine ⟨_, (pss_one (ps_if (pt_val (pe_fld (pv 0) rfl)) (pss_one ps_never) pss_nil)), ?_⟩
    exact ⟨_, rfl, r, _, dx, _, _, rfl, h1, T.cl_Road, T.na_Road_busy, rfl, _, rfl, iteF k⟩
theorem ok_stack_behind (T : Tx w K mg) : Prom P w K mg base CX0 6 "stack_behind" s_stack_behind ["base", "steps"] (spBehind K) := by
  refine Prom.of T.d_stack_behind sc_stack_behind (fun vs H Q E h => ?_) (fun _ _ _ _ _ _ us hl => match us, hl with | [_, _], _ => rfl) (fun f cdv A outer s H vs Q E hr h => ?_)
  · obtain ⟨t, xs, b, ss, rfl, _⟩ := h
    rfl
  · obtain ⟨t, xs, b, ss, rfl, ht, hw, rb, b0, b1, k⟩ := h
    refine ⟨_, (pss_cons (ps_set (i := 2) sc_stack_behind.nd rfl (Or.inl rfl) (pe_lst pa_nil))
      (pss_cons (ps_for PassesOwn.never (by rfl) (pi_tup (pv 1)) (pg_name (i := 3) sc_stack_behind.nd rfl (Or.inl rfl)) (pss_one (ps_if (pt_cmpR op_eq (pe_ix ix_tup (pv 3) pe_int (fun _ _ => rfl)) pe_str (nomark _)) (pss_one (ps_expr (pe_bm PySem.F.plainAttrs_list PySem.F.slot_list_append PySem.F.type_list_append mt_append (pv 2) (pa_cons (pe_ix ix_tup (pv 3) pe_int (fun _ _ => rfl)) pa_nil)))) (pss_one (ps_if (pt_cmpR op_eq (pe_ix ix_tup (pv 3) pe_int (fun _ _ => rfl)) pe_str (nomark _)) (pss_one (ps_expr (pe_bm0 PySem.F.plainAttrs_list PySem.F.slot_list_pop PySem.F.type_list_pop mt_pop (pv 2)))) pss_nil)))))
      (pss_one (ps_ret (pe_newS (ok_Stack T) (hr.mono (by decide)) (by rfl) pass0 (pa_cons (pv 0) (StX.pa_star (pv 2) pa_nil))))))), ?_⟩
    refine ⟨Nat.zero_le _, fun l hl => ?_⟩
    refine ⟨_, rfl, t, rfl, ⟨_, SqT.of (up hl _ _ ht)⟩, for_it (walk_tup (K := K) (a := t) (xs := xs)) (fun i σ H' => Same H H' ∧ ∃ (ys : List V) (v : Option V), H' l = some (.lst ys) ∧ WrapsAt K H' ys (onL (ss.take i)) ∧ σ = [some (.int b), some (.ref t), some (.ref l), v]) ⟨up hl, [], none, upd_same, .nil, rfl⟩ (fun _ _ H' _ h => SqT.of (h.1 _ _ ht)) ?_ ?_⟩
    · rintro i x σ H1 H2 hi ⟨hs, ys, v, hl1, hy, rfl⟩ ⟨rfl, hx⟩
      obtain ⟨q, st, rfl, hst, hq⟩ := hw.get hx
      have et : ss.take (i + 1) = ss.take i ++ [st] := by
        rw [List.take_succ, hst]
        rfl
      have sok := rb.at_ hst
      have so := (rb.take i).stk b0 b1
      have so6 := so.len
      have hyl := hy.len
      rw [et, onL_snoc]
      have keep : ∀ zs : List V, Same H (upd H2 l (.lst zs)) := fun zs y o e => by
        rw [upd_ne (ne_of_none e hl)]
        exact hs _ _ e
      have hq := hq.keeps (.same hs)
      cases st with
      | push a =>
        obtain ⟨u, h1, h2⟩ := hq
        refine ⟨_, rfl, q, _, _, _, rfl, rfl, SqT.of h1, rfl, rfl, _, rfl, ifd_pos rfl ?_⟩
        refine ⟨_, rfl, .inl ⟨rfl, _, SqL.of hl1⟩, _, rfl, q, _, _, _, rfl, rfl, SqT.of h1, rfl, l, _, _, rfl, rfl, hl1, ?_, ?_⟩
        · rw [sizeLine_eq]
          omega
        exact ⟨keep _, _, _, upd_same, (hy.snoc h2).keeps (.lst hl1), rfl⟩
      | pop =>
        have h1 : H2 q = _ := hq
        have ne : onL (ss.take i) ≠ [] := sok
        have hne : 0 < ys.length := by
          have : (onL (ss.take i)).length ≠ 0 := fun y => ne (List.eq_nil_of_length_eq_zero y)
          omega
        refine ⟨_, rfl, q, _, _, _, rfl, rfl, SqT.of h1, rfl, rfl, _, rfl, ifs_neg (show ("pop" : Str) ≠ "push" by decide) ?_⟩
        refine ⟨_, rfl, q, _, _, _, rfl, rfl, SqT.of h1, rfl, rfl, _, rfl, ifd_pos rfl ?_⟩
        exact ⟨_, rfl, .inl ⟨rfl, _, SqL.of hl1⟩, l, _, ys[ys.length - 1], rfl, rfl, hl1, List.getElem?_eq_getElem (by omega), keep _, _, _, upd_same, hy.dropLast.keeps (.lst hl1), rfl⟩
      | bound n =>
        have h1 : H2 q = _ := hq
        refine ⟨_, rfl, q, _, _, _, rfl, rfl, SqT.of h1, rfl, rfl, _, rfl, ifs_neg (show ("bound" : Str) ≠ "push" by decide) ?_⟩
        refine ⟨_, rfl, q, _, _, _, rfl, rfl, SqT.of h1, rfl, rfl, _, rfl, ifs_neg (show ("bound" : Str) ≠ "pop" by decide) ?_⟩
        exact ⟨hs, _, _, hl1, hy, rfl⟩
    · rintro σ H' ⟨hs, ys, v, hl1, hy, rfl⟩
      rw [hw.len, List.take_length] at hy
      refine ⟨_, rfl, _, rfl, l, ys, rfl, .inr (SqL.of hl1), b, ys ++ [], onL ss, rfl, rb.stk b0 b1, by rw [List.append_nil]; exact hy, fun q H2 nq s2 st => ?_⟩
      exact k q H2 (same_before hs nq) (hs.trans s2) st
theorem ok_check_push (T : Tx w K mg) : Prom P w K mg base CX0 3 "check_push" s_check_push ["stack", "wrap"] (spCheckPush K) := by
  refine Prom.of T.d_check_push sc_check_push (fun vs H Q E h => ?_) (fun _ _ _ _ _ _ us hl => match us, hl with | [_, _], _ => rfl) (fun f cdv A outer s H vs Q E hr h => ?_)
  · obtain ⟨q, r, b, ws, a, rfl, _⟩ := h
    rfl
  · obtain ⟨q, r, b, ws, a, rfl, hS, hW, so, k⟩ := h
    obtain ⟨dx, t, xs, hq, ht, hw⟩ := id hS
    have l6 := so.len
    rw [List.length_append] at l6
    have l6 : ws.length + 1 ≤ 6 := l6
    have f6 := so.fine
    refine ⟨_, (pss_cons (ps_expr (pe_callP (ok_check_wrap T) (hr.mono (by decide)) (by rfl) pass0 (pa_cons (pv 1) pa_nil)))
      (pss_cons (ps_if (pt_cmp (pc_eqI (pe_callB (cr_lenO (ok_Stack___len__ T) (hr.mono (by decide)) pass0) (by rfl) T.b_len (by decide +kernel) (pa_cons (pv 0) pa_nil)) (pe_gint T.c_MOST_WRAPS))) (pss_one ps_never) pss_nil)
      (pss_one (ps_if (pt_cmp (pc_gt (pe_callP (ok_fineness_of T) (hr.mono (by decide)) (by rfl) pass0 (pa_cons (pe_lst (StX.pa_star (pe_fld (pv 0) rfl) (pa_cons (pv 1) pa_nil))) pa_nil)) (pe_gint T.c_MOST_FINENESS))) (pss_one ps_never) pss_nil)))), ?_⟩
    refine ⟨_, rfl, r, a, rfl, hW, ?_⟩
    refine ⟨_, rfl, q, dx, _, rfl, hq, q, b, ws, rfl, hS, _, rfl, by omega, by omega, _, _, rfl, rfl, _, rfl, ifd (fun c => absurd c (by show ¬ (ws.length : Int) = 6; omega)) (fun _ => ?_)⟩
    refine ⟨_, rfl, q, _, dx, _, _, rfl, hq, T.cl_Stack, T.na_Stack_wraps, rfl, t, xs, rfl, .inl (SqT.of ht), _, rfl, ?_, fun l hl => ?_⟩
    · rw [List.length_append, hw.len, sizeLine_eq]
      simp
      omega
    have s1 := up (o := .lst (xs ++ [.ref r])) hl
    refine ⟨l, xs ++ [V.ref r], ws ++ [a], rfl, .inl (SqL.of upd_same), (hw.same s1).snoc (hW.same s1), so.ok, fun H2 s2 => ⟨_, _, rfl, rfl, _, rfl, ifd (fun c => absurd c (by show ¬ fineL (ws ++ [a]) > 120; omega)) (fun _ => ?_)⟩⟩
    exact k _ (s1.trans s2)
end
section
variable {P : Program} {w : World} {K : PySem.W.Frag} {mg : Str → Option Value} {base : Heap}
theorem ok_add_step (T : Tx w K mg) : Prom P w K mg base CX0 7 "add_step" s_add_step ["road", "step"] (spAddStep K) := by
  refine Prom.of T.d_add_step sc_add_step (fun vs H Q E h => ?_) (fun _ _ _ _ _ _ us hl => match us, hl with | [_, _], _ => rfl) (fun f cdv A outer s H vs Q E hr h => ?_)
  · obtain ⟨z, r, t, b, ss, st, rfl, _⟩ := h
    rfl
  · obtain ⟨z, r, t, b, ss, st, rfl, hR, hlen, hst, sok, k⟩ := h
    obtain ⟨dx, t0, q0, xs, h1, h2, h3, h4⟩ := hR.at_
    refine ⟨_, (pss_cons (ps_if (pt_cmpR op_eq (pe_ix ix_tup (pv 1) pe_int (fun _ _ => rfl)) pe_str (nomark _)) (pss_one (ps_expr (pe_callP (ok_check_push T) (hr.mono (by decide)) (by rfl) pass0 (pa_cons (pe_fld (pv 0) rfl) (pa_cons (pe_ix ix_tup (pv 1) pe_int (fun _ _ => rfl)) pa_nil))))) (pss_one (ps_if (pt_cmpR op_eq (pe_ix ix_tup (pv 1) pe_int (fun _ _ => rfl)) pe_str (nomark _)) (pss_one (ps_expr (pe_callP (ok_check_length T) (hr.mono (by decide)) (by rfl) pass0 (pa_cons (pe_ix ix_tup (pv 1) pe_int (fun _ _ => rfl)) pa_nil)))) (pss_one (ps_if (pt_cmp (pc_eqI (pe_callB (cr_lenO (ok_Stack___len__ T) (hr.mono (by decide)) pass0) (by rfl) T.b_len (by decide +kernel) (pa_cons (pe_fld (pv 0) rfl) pa_nil)) pe_int)) (pss_one ps_never) pss_nil)))))
      (pss_cons (ps_fld (pv 0) (pe_tup (StX.pa_star (pe_fld (pv 0) rfl) (pa_cons (pv 1) pa_nil))) rfl)
      (pss_one (ps_fld (pv 0) (pe_callP (ok_stack_behind T) (hr.mono (by decide)) (by rfl) pass0 (pa_cons (pe_fld (pv 0) rfl) (pa_cons (pe_fld (pv 0) rfl) pa_nil))) rfl)))), ?_⟩
    have s0 := Same.refl H
    cases st with
    | push a =>
      obtain ⟨u, g1, g2⟩ := id hst
      refine ⟨_, rfl, t, _, _, _, rfl, rfl, SqT.of g1, rfl, rfl, _, rfl, ifd_pos rfl ?_⟩
      refine ⟨_, rfl, r, _, dx, _, _, rfl, h1, T.cl_Road, T.na_Road_stack, rfl, _, rfl, t, _, _, _, rfl, rfl, SqT.of g1, rfl, q0, u, b, onL ss, a, rfl, h4, g2, sok, fun H1 s1 => ?_⟩
      refine ⟨_, rfl, r, _, dx, _, _, rfl, s1 _ _ h1, T.cl_Road, T.na_Road_steps, rfl, t0, xs, rfl, .inl (SqT.of (s1 _ _ h2)), _, rfl, ?_, fun t2 ht2 => ?_⟩
      · rw [List.length_append, h3.len, sizeLine_eq]
        simp
        omega
      have s2 := s1.trans (up (o := .tup (xs ++ ([V.ref t] ++ []))) ht2)
      refine ⟨_, rfl, r, _, dx, _, rfl, s2 _ _ h1, T.cl_Road, T.na_Road_steps, (show (4 : Nat) < 1000 by decide), ?_⟩
      have nr2 : t2 ≠ r := fun z => by
        have := s1 _ _ h1
        rw [← z, ht2] at this
        cases this
      have g1 : ∀ o, (upd (upd H1 t2 (.tup (xs ++ ([V.ref t] ++ [])))) r o) t2 = some (.tup (xs ++ [V.ref t])) := fun o => by
        rw [upd_ne nr2, upd_same, List.append_nil]
      have kp1 : Kp r H (upd (upd H1 t2 (.tup (xs ++ ([V.ref t] ++ [])))) r (.ins (He.ga K "Road") dx (roadFsZ z b t2 q0))) := Kp.set (fun y o n e => s2 _ _ e)
      have ks1 := Keeps.road T.ne_Road_Wrap T.ne_Road_Stack h1 kp1
      have st1 : StepsAt K (upd (upd H1 t2 (.tup (xs ++ ([V.ref t] ++ [])))) r (.ins (He.ga K "Road") dx (roadFsZ z b t2 q0))) (xs ++ [V.ref t]) (ss ++ [.push a]) := (h3.snoc hst).keeps ks1
      have rb2 : RoadB b (ss ++ [.push a]) := .snoc hR.rb sok
      refine ⟨_, rfl, r, _, dx, _, _, rfl, upd_same, T.cl_Road, T.na_Road_base, rfl, _, rfl, r, _, dx, _, _, rfl, upd_same, T.cl_Road, T.na_Road_steps, rfl, t2, _, b, _, rfl, g1 _, st1, rb2, hR.b0, hR.b1, fun q3 H3 nq3 s3 stk3 => ?_⟩
      refine ⟨_, rfl, r, _, dx, _, rfl, s3 _ _ upd_same, T.cl_Road, T.na_Road_stack, (show (4 : Nat) < 1000 by decide), ?_⟩
      have kp2 : Kp r H (upd H3 r (.ins (He.ga K "Road") dx (roadFsZ z b t2 q3))) := Kp.set (fun y o n e => s3 _ _ (kp1 y o n e))
      have ks2 : Keeps K H3 (upd H3 r (.ins (He.ga K "Road") dx (roadFsZ z b t2 q3))) := Keeps.road T.ne_Road_Wrap T.ne_Road_Stack (s3 _ _ upd_same) (Kp.set (Kp.refl r H3))
      refine k _ kp2 ⟨⟨dx, t2, q3, _, upd_same, ks2.tup (s3 _ _ (g1 _)), (st1.keeps (.same s3)).keeps ks2, stk3.keeps ks2⟩, rb2, hR.b0, hR.b1, by rw [List.length_append]; simp; omega⟩
    | pop =>
      have g1 : H t = _ := hst
      have ne : onL ss ≠ [] := sok
      have hn : (onL ss).length ≠ 0 := fun y => ne (List.eq_nil_of_length_eq_zero y)
      have so := hR.rb.stk hR.b0 hR.b1
      have so6 := so.len
      obtain ⟨dz, tz, xz, z1, z2, z3⟩ := id h4
      refine ⟨_, rfl, t, _, _, _, rfl, rfl, SqT.of g1, rfl, rfl, _, rfl, ifs_neg (show ("pop" : Str) ≠ "push" by decide) ?_⟩
      refine ⟨_, rfl, t, _, _, _, rfl, rfl, SqT.of g1, rfl, rfl, _, rfl, ifs_neg (show ("pop" : Str) ≠ "bound" by decide) ?_⟩
      refine ⟨_, rfl, r, _, dx, _, _, rfl, h1, T.cl_Road, T.na_Road_stack, rfl, q0, dz, _, rfl, z1, q0, b, onL ss, rfl, h4, _, rfl, by omega, by omega, _, _, rfl, rfl, _, rfl, ifd (fun c => absurd c (by show ¬ ((onL ss).length : Int) = 0; omega)) (fun _ => ?_)⟩
      refine ⟨_, rfl, r, _, dx, _, _, rfl, s0 _ _ h1, T.cl_Road, T.na_Road_steps, rfl, t0, xs, rfl, .inl (SqT.of (s0 _ _ h2)), _, rfl, ?_, fun t2 ht2 => ?_⟩
      · rw [List.length_append, h3.len, sizeLine_eq]
        simp
        omega
      have s2 := s0.trans (up (o := .tup (xs ++ ([V.ref t] ++ []))) ht2)
      refine ⟨_, rfl, r, _, dx, _, rfl, s2 _ _ h1, T.cl_Road, T.na_Road_steps, (show (4 : Nat) < 1000 by decide), ?_⟩
      have nr2 : t2 ≠ r := fun z => by
        have := s0 _ _ h1
        rw [← z, ht2] at this
        cases this
      have g1 : ∀ o, (upd (upd H t2 (.tup (xs ++ ([V.ref t] ++ [])))) r o) t2 = some (.tup (xs ++ [V.ref t])) := fun o => by
        rw [upd_ne nr2, upd_same, List.append_nil]
      have kp1 : Kp r H (upd (upd H t2 (.tup (xs ++ ([V.ref t] ++ [])))) r (.ins (He.ga K "Road") dx (roadFsZ z b t2 q0))) := Kp.set (fun y o n e => s2 _ _ e)
      have ks1 := Keeps.road T.ne_Road_Wrap T.ne_Road_Stack h1 kp1
      have st1 : StepsAt K (upd (upd H t2 (.tup (xs ++ ([V.ref t] ++ [])))) r (.ins (He.ga K "Road") dx (roadFsZ z b t2 q0))) (xs ++ [V.ref t]) (ss ++ [.pop]) := (h3.snoc hst).keeps ks1
      have rb2 : RoadB b (ss ++ [.pop]) := .snoc hR.rb sok
      refine ⟨_, rfl, r, _, dx, _, _, rfl, upd_same, T.cl_Road, T.na_Road_base, rfl, _, rfl, r, _, dx, _, _, rfl, upd_same, T.cl_Road, T.na_Road_steps, rfl, t2, _, b, _, rfl, g1 _, st1, rb2, hR.b0, hR.b1, fun q3 H3 nq3 s3 stk3 => ?_⟩
      refine ⟨_, rfl, r, _, dx, _, rfl, s3 _ _ upd_same, T.cl_Road, T.na_Road_stack, (show (4 : Nat) < 1000 by decide), ?_⟩
      have kp2 : Kp r H (upd H3 r (.ins (He.ga K "Road") dx (roadFsZ z b t2 q3))) := Kp.set (fun y o n e => s3 _ _ (kp1 y o n e))
      have ks2 : Keeps K H3 (upd H3 r (.ins (He.ga K "Road") dx (roadFsZ z b t2 q3))) := Keeps.road T.ne_Road_Wrap T.ne_Road_Stack (s3 _ _ upd_same) (Kp.set (Kp.refl r H3))
      refine k _ kp2 ⟨⟨dx, t2, q3, _, upd_same, ks2.tup (s3 _ _ (g1 _)), (st1.keeps (.same s3)).keeps ks2, stk3.keeps ks2⟩, rb2, hR.b0, hR.b1, by rw [List.length_append]; simp; omega⟩
    | bound n =>
      have g1 : H t = _ := hst
      have sok2 : 0 ≤ n ∧ n ≤ 10 ^ 60 - 1 := sok
      refine ⟨_, rfl, t, _, _, _, rfl, rfl, SqT.of g1, rfl, rfl, _, rfl, ifs_neg (show ("bound" : Str) ≠ "push" by decide) ?_⟩
      refine ⟨_, rfl, t, _, _, _, rfl, rfl, SqT.of g1, rfl, rfl, _, rfl, ifd_pos rfl ?_⟩
      refine ⟨_, rfl, t, _, _, _, rfl, rfl, SqT.of g1, rfl, n, rfl, sok2.1, sok2.2, ?_⟩
      refine ⟨_, rfl, r, _, dx, _, _, rfl, s0 _ _ h1, T.cl_Road, T.na_Road_steps, rfl, t0, xs, rfl, .inl (SqT.of (s0 _ _ h2)), _, rfl, ?_, fun t2 ht2 => ?_⟩
      · rw [List.length_append, h3.len, sizeLine_eq]
        simp
        omega
      have s2 := s0.trans (up (o := .tup (xs ++ ([V.ref t] ++ []))) ht2)
      refine ⟨_, rfl, r, _, dx, _, rfl, s2 _ _ h1, T.cl_Road, T.na_Road_steps, (show (4 : Nat) < 1000 by decide), ?_⟩
      have nr2 : t2 ≠ r := fun z => by
        have := s0 _ _ h1
        rw [← z, ht2] at this
        cases this
      have g1 : ∀ o, (upd (upd H t2 (.tup (xs ++ ([V.ref t] ++ [])))) r o) t2 = some (.tup (xs ++ [V.ref t])) := fun o => by
        rw [upd_ne nr2, upd_same, List.append_nil]
      have kp1 : Kp r H (upd (upd H t2 (.tup (xs ++ ([V.ref t] ++ [])))) r (.ins (He.ga K "Road") dx (roadFsZ z b t2 q0))) := Kp.set (fun y o n e => s2 _ _ e)
      have ks1 := Keeps.road T.ne_Road_Wrap T.ne_Road_Stack h1 kp1
      have st1 : StepsAt K (upd (upd H t2 (.tup (xs ++ ([V.ref t] ++ [])))) r (.ins (He.ga K "Road") dx (roadFsZ z b t2 q0))) (xs ++ [V.ref t]) (ss ++ [.bound n]) := (h3.snoc hst).keeps ks1
      have rb2 : RoadB b (ss ++ [.bound n]) := .snoc hR.rb sok
      refine ⟨_, rfl, r, _, dx, _, _, rfl, upd_same, T.cl_Road, T.na_Road_base, rfl, _, rfl, r, _, dx, _, _, rfl, upd_same, T.cl_Road, T.na_Road_steps, rfl, t2, _, b, _, rfl, g1 _, st1, rb2, hR.b0, hR.b1, fun q3 H3 nq3 s3 stk3 => ?_⟩
      refine ⟨_, rfl, r, _, dx, _, rfl, s3 _ _ upd_same, T.cl_Road, T.na_Road_stack, (show (4 : Nat) < 1000 by decide), ?_⟩
      have kp2 : Kp r H (upd H3 r (.ins (He.ga K "Road") dx (roadFsZ z b t2 q3))) := Kp.set (fun y o n e => s3 _ _ (kp1 y o n e))
      have ks2 : Keeps K H3 (upd H3 r (.ins (He.ga K "Road") dx (roadFsZ z b t2 q3))) := Keeps.road T.ne_Road_Wrap T.ne_Road_Stack (s3 _ _ upd_same) (Kp.set (Kp.refl r H3))
      refine k _ kp2 ⟨⟨dx, t2, q3, _, upd_same, ks2.tup (s3 _ _ (g1 _)), (st1.keeps (.same s3)).keeps ks2, stk3.keeps ks2⟩, rb2, hR.b0, hR.b1, by rw [List.length_append]; simp; omega⟩
def spRoad0 (K : PySem.W.Frag) : Sp := fun vs H Q _ => ∃ (x dx : Addr) (b : Int), vs = [.ref x, .int b] ∧ 2 ≤ b ∧ b ≤ 256 ∧ H x = some (.ins (He.ga K "Road") dx []) ∧
  ∀ H' t q, Kp x H H' → H' x = some (.ins (He.ga K "Road") dx (roadFs b t q)) → H' t = some (.tup []) → StkAt K H' q b [] → Q .non H'
theorem ok_Road (T : Tx w K mg) : PromC P w K mg base CX0 6 "Road" (spRoad K) := by
  refine PromC.plain (sp0 := spRoad0 K) T.mk_Road T.k_Road T.dm_Road___init__ sc_Road___init__ (fun vs H Q E h => ?_) (fun _ _ _ _ _ _ us hl => match us, hl with | [_, _], _ => rfl) (fun f cdv A outer s H vs Q E hr h => ?_) (fun vs H Q E h x dx hx hdx ne => ?_)
  · obtain ⟨x, dx, b, rfl, _⟩ := h
    rfl
  · obtain ⟨x, dx, b, rfl, b0, b1, hx, k⟩ := h
    refine ⟨_, (pss_cons (ps_expr (pe_callP (ok_check_base T) (hr.mono (by decide)) (by rfl) pass0 (pa_cons (pv 1) pa_nil)))
      (pss_cons (ps_fld (pv 0) (pv 1) rfl)
      (pss_cons (ps_fld (pv 0) (pe_tup pa_nil) rfl)
      (pss_cons (ps_fld (pv 0) (pe_newP (ok_Stack T) (hr.mono (by decide)) (by rfl) pass0 (pa_cons (pv 1) pa_nil)) rfl)
      (pss_one (ps_fld (pv 0) pe_bl rfl)))))), ?_⟩
    refine ⟨_, rfl, b, rfl, b0, b1, ?_⟩
    refine ⟨_, rfl, _, rfl, x, _, dx, _, rfl, hx, T.cl_Road, T.na_Road_base, (show (0 : Nat) < 1000 by decide), ?_⟩
    refine ⟨Nat.zero_le _, fun t ht => ?_⟩
    have nt : t ≠ x := fun z => by
      rw [z, upd_same] at ht
      cases ht
    have hx1 : (upd (upd H x (.ins (He.ga K "Road") dx [("base", .int b)])) t (.tup [])) x = some (.ins (He.ga K "Road") dx [("base", .int b)]) := by
      rw [upd_ne (Ne.symm nt)]
      exact upd_same
    refine ⟨_, rfl, x, _, dx, _, rfl, hx1, T.cl_Road, T.na_Road_steps, (show (1 : Nat) < 1000 by decide), ?_⟩
    have kp1 : ∀ o1 o2, Kp x H (upd (upd (upd H x o1) t (.tup [])) x o2) := fun o1 o2 => Kp.set (Kp.new (Kp.set (Kp.refl x H)) (by rw [upd_ne nt] at ht; rw [upd_ne nt]; exact ht))
    refine ⟨_, rfl, b, [], [], rfl, StkOk.nil b0 b1, .nil, fun q H3 nq s3 st => ?_⟩
    refine ⟨_, rfl, x, _, dx, _, rfl, s3 _ _ upd_same, T.cl_Road, T.na_Road_stack, (show (2 : Nat) < 1000 by decide), ?_⟩
    refine ⟨_, rfl, x, _, dx, _, rfl, upd_same, T.cl_Road, T.na_Road_busy, (show (3 : Nat) < 1000 by decide), ?_⟩
    have ks : Keeps K H3 (upd (upd H3 x (.ins (He.ga K "Road") dx [("base", .int b), ("steps", .ref t), ("stack", .ref q)])) x (.ins (He.ga K "Road") dx (roadFs b t q))) := Keeps.road T.ne_Road_Wrap T.ne_Road_Stack (s3 _ _ upd_same) (Kp.set (Kp.set (Kp.refl x H3)))
    refine k _ t q (Kp.set (Kp.set fun y o n e => s3 _ _ (kp1 _ _ y o n e))) upd_same (ks.tup (s3 _ _ (by rw [upd_ne nt]; exact upd_same))) (st.keeps ks)
  · obtain ⟨b, rfl, b0, b1, k⟩ := h
    have same : Same H (upd (upd H dx (.own x)) x (.ins (He.ga K "Road") dx [])) := fun z o e => by
      rw [upd_ne (ne_of_none e hx), upd_ne (ne_of_none e hdx)]
      exact e
    refine ⟨x, dx, b, rfl, b0, b1, upd_same, fun H' t q kp hx' ht hq => ⟨rfl, ?_⟩⟩
    exact k x H' hx (fun z o e => kp _ _ (ne_of_none e hx) (same _ _ e)) ⟨⟨dx, t, q, [], hx', ht, .nil, hq⟩, .nil, b0, b1, by simp⟩
theorem ok_Road_push (T : Tx w K mg) : PromM P w K mg base CX0 8 "Road" "push" ["self", "wrap"] (spPush K) := by
  refine PromM.of T.cl_Road T.me_Road_push T.dm_Road_push sc_Road_push (fun vs H Q E h => ?_) (fun _ _ _ _ _ _ us hl => match us, hl with | [_, _], _ => rfl) (fun f cdv A outer s H vs Q E hr h => ?_)
  · obtain ⟨r, q, b, ss, a, rfl, _⟩ := h
    rfl
  · obtain ⟨r, q, b, ss, a, rfl, hR, hl, hW, so, k⟩ := h
    refine ⟨_, (pss_cons (ps_expr (pe_callP (ok_check_free T) (hr.mono (by decide)) (by rfl) pass0 (pa_cons (pv 0) pa_nil)))
      (pss_one (ps_expr (pe_callP (ok_add_step T) (hr.mono (by decide)) (by rfl) pass0 (pa_cons (pv 0) (pa_cons (pe_tup (pa_cons pe_str (pa_cons (pv 1) pa_nil))) pa_nil)))))), ?_⟩
    refine ⟨_, rfl, r, b, ss, rfl, hR, _, rfl, _, rfl, (by show 2 ≤ sizeLine; decide), fun t ht => ?_⟩
    have s1 := up (o := .tup [.str "push", .ref q]) ht
    exact ⟨false, r, t, b, ss, .push a, rfl, hR.same s1, hl, ⟨q, upd_same, hW.same s1⟩, so, fun H' kp hR' => k _ (fun y o n e => kp y o n (s1 _ _ e)) hR'⟩
theorem ok_Road_pop (T : Tx w K mg) : PromM P w K mg base CX0 8 "Road" "pop" ["self"] (spPop K) := by
  refine PromM.of T.cl_Road T.me_Road_pop T.dm_Road_pop sc_Road_pop (fun vs H Q E h => ?_) (fun _ _ _ _ _ _ us hl => match us, hl with | [_], _ => rfl) (fun f cdv A outer s H vs Q E hr h => ?_)
  · obtain ⟨r, b, ss, rfl, _⟩ := h
    rfl
  · obtain ⟨r, b, ss, rfl, hR, hl, ne, k⟩ := h
    refine ⟨_, (pss_cons (ps_expr (pe_callP (ok_check_free T) (hr.mono (by decide)) (by rfl) pass0 (pa_cons (pv 0) pa_nil)))
      (pss_one (ps_expr (pe_callP (ok_add_step T) (hr.mono (by decide)) (by rfl) pass0 (pa_cons (pv 0) (pa_cons (pe_tup (pa_cons pe_str pa_nil)) pa_nil)))))), ?_⟩
    refine ⟨_, rfl, r, b, ss, rfl, hR, _, rfl, (by show 1 ≤ sizeLine; decide), fun t ht => ?_⟩
    have s1 := up (o := .tup [.str "pop"]) ht
    exact ⟨false, r, t, b, ss, .pop, rfl, hR.same s1, hl, upd_same, ne, fun H' kp hR' => k _ (fun y o n e => kp y o n (s1 _ _ e)) hR'⟩
theorem ok_Road_bound (T : Tx w K mg) : PromM P w K mg base CX0 8 "Road" "bound" ["self", "bound"] (spBound K) := by
  refine PromM.of T.cl_Road T.me_Road_bound T.dm_Road_bound sc_Road_bound (fun vs H Q E h => ?_) (fun _ _ _ _ _ _ us hl => match us, hl with | [_, _], _ => rfl) (fun f cdv A outer s H vs Q E hr h => ?_)
  · obtain ⟨r, b, n, ss, rfl, _⟩ := h
    rfl
  · obtain ⟨r, b, n, ss, rfl, hR, hl, n0, n1, k⟩ := h
    refine ⟨_, (pss_cons (ps_expr (pe_callP (ok_check_free T) (hr.mono (by decide)) (by rfl) pass0 (pa_cons (pv 0) pa_nil)))
      (pss_one (ps_expr (pe_callP (ok_add_step T) (hr.mono (by decide)) (by rfl) pass0 (pa_cons (pv 0) (pa_cons (pe_tup (pa_cons pe_str (pa_cons (pv 1) pa_nil))) pa_nil)))))), ?_⟩
    refine ⟨_, rfl, r, b, ss, rfl, hR, _, rfl, _, rfl, (by show 2 ≤ sizeLine; decide), fun t ht => ?_⟩
    have s1 := up (o := .tup [.str "bound", .int n]) ht
    exact ⟨false, r, t, b, ss, .bound n, rfl, hR.same s1, hl, upd_same, ⟨n0, n1⟩, fun H' kp hR' => k _ (fun y o n e => kp y o n (s1 _ _ e)) hR'⟩
end
/-! ### heaps and slots -/
theorem same_up {H : Hp} {p : Addr} {o : HO} (hp : H p = none) : Same H (upd H p o) := fun x o e => by
  rw [upd_ne (ne_of_none e hp)]
  exact e
theorem gn {i : Nat} {x : V} {σ : L2.St} {H : Hp} {k : L2.St → Hp → Prop} (h : k (σ.set i (some x)) H) : gName i x σ H k := h
theorem st_eq {F : L2.St → Hp → Prop} {σ : L2.St} {H : Hp} (σ' : L2.St) (e : σ = σ') (k : F σ' H) : F σ H := e ▸ k
theorem hp_eq {F : L2.St → Hp → Prop} {σ : L2.St} {H : Hp} (H2 : Hp) (e : H = H2) (k : F σ H2) : F σ H := e ▸ k
theorem hp_new {F : L2.St → Hp → Prop} {σ : L2.St} {H : Hp} {w : Addr} {o : HO} (h : H w = none) (k : ∀ G, Same H G → G w = some o → F σ G) : F σ (upd H w o) := k _ (up h) upd_same
theorem hp_new2 {F : L2.St → Hp → Prop} {σ : L2.St} {H : Hp} {w w2 : Addr} {o o2 : HO} (h2 : H w2 = none) (h : upd H w2 o2 w = none) (k : ∀ G, Same H G → G w = some o → F σ G) : F σ (upd (upd H w2 o2) w o) := k _ (fun _ _ e => up h _ _ (up h2 _ _ e)) upd_same
/-! ### several steps at once -/
def spDeed (K : PySem.W.Frag) : Sp := fun vs H Q _ => ∃ (t : Addr) (s : Stp), vs = [.ref t] ∧ StepAt K H t s ∧ Q (.bl true) H
def spDoAll0 (K : PySem.W.Frag) : Sp := fun vs H Q _ => ∃ (r p : Addr) (b : Int) (ss us : List Stp) (ds : List V), vs = [.ref r, .non, .ref p] ∧ H p = some (.tup ds) ∧ StepsAt K H ds us ∧ RoadAt K H r b ss ∧ RoadB b (ss ++ us) ∧ ss.length + us.length ≤ 1000 ∧ ∀ H', Kp r H H' → RoadAt K H' r b (ss ++ us) → Q .non H'
section
variable {P : Program} {w : World} {K : PySem.W.Frag} {mg : Str → Option Value} {base : Heap}
theorem ok_is_deed (T : Tx w K mg) : Prom P w K mg base CX0 1 "is_deed" s_is_deed ["value"] (spDeed K) := by
  obtain ⟨es, n, dk⟩ := T.dk
  refine Prom.of T.d_is_deed sc_is_deed (fun vs H Q E h => ?_) (fun _ _ _ _ _ _ us hl => match us, hl with | [_], _ => rfl) (fun f cdv A outer s H vs Q E hr h => ?_)
  · obtain ⟨t, s, rfl, _⟩ := h
    rfl
  · obtain ⟨t, st, rfl, hst, k⟩ := h
    refine ⟨_, (pss_cons (ps_if (PW.pt (pw_or (pt_not (pt_val (pe_callB call_isi (by rfl) T.b_isinstance (by decide +kernel) (pa_cons (pv 0) (pa_cons (pe_bltn (v := .ty "tuple") (by rfl) T.b_tuple (by decide +kernel) rfl) pa_nil))))) (pw_or (pt_cmp (pc_eqI (pe_callB call_len_seq (by rfl) T.b_len (by decide +kernel) (pa_cons (pv 0) pa_nil)) pe_int)) (pw_or1 (pt_not (pt_val (pe_callB call_isi (by rfl) T.b_isinstance (by decide +kernel) (pa_cons (pe_ix ix_tup (pv 0) pe_int (fun _ _ => rfl)) (pa_cons (pe_bltn (v := .ty "str") (by rfl) T.b_str (by decide +kernel) rfl) pa_nil))))))))) pss_no pss_nil)
      (pss_one (ps_ret (pe_cmp (pc_eqI (pe_kget2 dk (pe_glob (v := .ref _) (by rfl) T.k_DEED_SIZES rfl) (pe_ix ix_tup (pv 0) pe_int (fun _ _ => rfl)) pe_int ⟨by rfl, by rfl, by rfl, by rfl⟩) (pe_callB call_len_seq (by rfl) T.b_len (by decide +kernel) (pa_cons (pv 0) pa_nil))))))), ?_⟩
    obtain ⟨w1, hw1⟩ := T.dz_push
    obtain ⟨w2, hw2⟩ := T.dz_pop
    obtain ⟨w3, hw3⟩ := T.dz_bound
    cases st with
    | push a =>
      obtain ⟨u, g1, g2⟩ := id hst
      refine ⟨_, rfl, _, _, _, _, true, rfl, .ty _, .base (.tup g1), kit_ty (by decide +kernel), true, rfl, iteF ?_⟩
      refine ⟨_, rfl, t, _, rfl, .inr (SqT.of g1), _, _, rfl, rfl, _, rfl, ifd_neg (show ¬ (2 : Int) = 0 by decide) ?_⟩
      refine ⟨_, rfl, t, _, _, _, rfl, rfl, SqT.of g1, rfl, _, _, _, _, true, rfl, .ty _, .base (.str _), kit_ty (by decide +kernel), true, rfl, iteF ?_⟩
      exact ⟨_, rfl, t, _, _, _, rfl, rfl, SqT.of g1, rfl, "push", _, rfl, hw1, .int 2, (fun z => by cases z), (fun u e => by cases e; exact ⟨_, rfl⟩), _, rfl, t, _, rfl, .inr (SqT.of g1), _, _, rfl, rfl, k⟩
    | pop =>
      have g1 : H t = _ := hst
      refine ⟨_, rfl, _, _, _, _, true, rfl, .ty _, .base (.tup g1), kit_ty (by decide +kernel), true, rfl, iteF ?_⟩
      refine ⟨_, rfl, t, _, rfl, .inr (SqT.of g1), _, _, rfl, rfl, _, rfl, ifd_neg (show ¬ (1 : Int) = 0 by decide) ?_⟩
      refine ⟨_, rfl, t, _, _, _, rfl, rfl, SqT.of g1, rfl, _, _, _, _, true, rfl, .ty _, .base (.str _), kit_ty (by decide +kernel), true, rfl, iteF ?_⟩
      exact ⟨_, rfl, t, _, _, _, rfl, rfl, SqT.of g1, rfl, "pop", _, rfl, hw2, .int 1, (fun z => by cases z), (fun u e => by cases e; exact ⟨_, rfl⟩), _, rfl, t, _, rfl, .inr (SqT.of g1), _, _, rfl, rfl, k⟩
    | bound n =>
      have g1 : H t = _ := hst
      refine ⟨_, rfl, _, _, _, _, true, rfl, .ty _, .base (.tup g1), kit_ty (by decide +kernel), true, rfl, iteF ?_⟩
      refine ⟨_, rfl, t, _, rfl, .inr (SqT.of g1), _, _, rfl, rfl, _, rfl, ifd_neg (show ¬ (2 : Int) = 0 by decide) ?_⟩
      refine ⟨_, rfl, t, _, _, _, rfl, rfl, SqT.of g1, rfl, _, _, _, _, true, rfl, .ty _, .base (.str _), kit_ty (by decide +kernel), true, rfl, iteF ?_⟩
      exact ⟨_, rfl, t, _, _, _, rfl, rfl, SqT.of g1, rfl, "bound", _, rfl, hw3, .int 2, (fun z => by cases z), (fun u e => by cases e; exact ⟨_, rfl⟩), _, rfl, t, _, rfl, .inr (SqT.of g1), _, _, rfl, rfl, k⟩
theorem ok_Road_do_all (T : Tx w K mg) : PromMR P w K mg base CX0 9 "Road" "do_all" (spStarK .non (spDoAll0 K)) := by
  refine PromMR.starK T.cl_Road T.me_Road_do_all T.dm_Road_do_all sc_Road_do_all (fun D doc pm an cdv ct a v rs => ?_) (fun f cdv A outer s H vs Q E hr h => ?_)
  · cases rs with
    | nil => exact ⟨_, _, _, _, _, _, rfl, rfl, rfl⟩
    | cons r rs => exact ⟨_, _, _, _, _, _, rfl, rfl, rfl⟩
  · obtain ⟨r, p, b, ss, us, ds, rfl, hp, hd, hR, rb, hl, k⟩ := h
    refine ⟨_, (pss_cons (ps_expr (pe_callP (ok_check_free T) (hr.mono (by decide)) (by rfl) pass0 (pa_cons (pv 0) pa_nil)))
      (pss_cons (ps_for PassesOwn.never (by rfl) (pi_enumT (by rfl) T.b_enumerate (pa_cons (pv 2) pa_nil)) (pg_tup rfl (pgs_cons (pg_name (i := 3) sc_Road_do_all.nd rfl (Or.inl rfl)) (pgs_cons (pg_name (i := 4) sc_Road_do_all.nd rfl (Or.inl rfl)) pgs_nil))) (pss_one (ps_if (pt_not (pt_val (pe_callP (ok_is_deed T) (hr.mono (by decide)) (by rfl) pass0 (pa_cons (pv 4) pa_nil)))) pss_no pss_nil)))
      (pss_cons (ps_set (i := 5) sc_Road_do_all.nd rfl (Or.inl rfl) (pe_fld (pv 0) rfl))
      (pss_cons (ps_set (i := 6) sc_Road_do_all.nd rfl (Or.inl rfl) (pe_fld (pv 0) rfl))
      (pss_cons (ps_fld (pv 0) pe_bl rfl)
      (pss_one (ps_tryFinN (pss_cons (ps_for PassesOwn.never (by rfl) (pi_enumT (by rfl) T.b_enumerate (pa_cons (pv 2) pa_nil)) (pg_tup rfl (pgs_cons (pg_name (i := 3) sc_Road_do_all.nd rfl (Or.inl rfl)) (pgs_cons (pg_name (i := 4) sc_Road_do_all.nd rfl (Or.inl rfl)) pgs_nil))) (pss_cons (ps_expr (pe_callP (ok_add_step T) (hr.mono (by decide)) (by rfl) pass0 (pa_cons (pv 0) (pa_cons (pv 4) pa_nil))))
      (pss_one (ps_if (pt_cmpR op_notN (pv 1) pe_non (nomark _)) pss_no pss_nil))))
      (pss_one (ps_set (i := 5) sc_Road_do_all.nd rfl (Or.inl rfl) pe_non))) (pss_cons (ps_fld (pv 0) pe_bl rfl)
      (pss_one (ps_if (pt_cmpR op_notN (pv 5) pe_non (nomark _)) pss_no pss_nil)))))))))), ?_⟩
    have hxl := hd.len
    refine ⟨_, rfl, r, b, ss, rfl, hR, ?_⟩
    refine ⟨_, rfl, p, ds, rfl, SqT.of hp, for_it (walk_enumT (K := K) (a := p) (xs := ds)) (fun i σ H' => Same H H' ∧ ∃ v3 v4 : Option V, σ = [some (.ref r), some .non, some (.ref p), v3, v4, none, none]) ⟨Same.refl H, none, none, rfl⟩ (fun _ _ H' _ h => SqT.of (h.1 _ _ hp)) ?_ ?_⟩
    · rintro i x σ H1 H2 hi ⟨hs, v3, v4, rfl⟩ ⟨T2, x1, x2, rfl, hT2, rfl, e1, e2⟩
      cases e1
      obtain ⟨u, st, rfl, hst, hu⟩ := hd.get e2
      have s2 := hs.trans (up (o := .tup [.int (i : Nat), .ref u]) hT2)
      have hu := hu.keeps (.same s2)
      refine ⟨T2, _, rfl, SqT.of upd_same, rfl, _, _, rfl, _, _, rfl, rfl, ?_⟩
      exact ⟨_, rfl, u, st, rfl, hu, _, rfl, ifb_neg rfl ⟨s2, _, _, rfl⟩⟩
    rintro σ H1 ⟨s1, v3, v4, rfl⟩
    have hR1 := hR.same s1
    have hp1 := s1 _ _ hp
    have hd1 := hd.keeps (.same s1)
    obtain ⟨⟨dx, t, q, xs, h1, h2, h3, h4⟩, rb0, b0, b1, l0⟩ := id hR1
    refine ⟨_, rfl, r, _, dx, _, _, rfl, h1, T.cl_Road, T.na_Road_steps, rfl, ?_⟩
    refine ⟨_, rfl, r, _, dx, _, _, rfl, h1, T.cl_Road, T.na_Road_stack, rfl, ?_⟩
    refine ⟨_, rfl, r, _, dx, _, rfl, h1, T.cl_Road, T.na_Road_busy, (show (4 : Nat) < 1000 by decide), ?_⟩
    have kp0 : Kp r H (upd H1 r (.ins (He.ga K "Road") dx (roadFsZ true b t q))) := Kp.set fun y o n e => s1 _ _ e
    have ks0 : Keeps K H1 (upd H1 r (.ins (He.ga K "Road") dx (roadFsZ true b t q))) := Keeps.road T.ne_Road_Wrap T.ne_Road_Stack h1 (Kp.set (Kp.refl r H1))
    have hR0 : RoadZ K (upd H1 r (.ins (He.ga K "Road") dx (roadFsZ true b t q))) r b ss true := ⟨⟨dx, t, q, xs, upd_same, ks0.tup h2, h3.keeps ks0, h4.keeps ks0⟩, rb0, b0, b1, l0⟩
    have hp0 := ks0.tup hp1
    have hd0 := hd1.keeps ks0
    refine hp_eq (upd H1 r (.ins (He.ga K "Road") dx (roadFsZ true b t q))) rfl ?_
    generalize (upd H1 r (.ins (He.ga K "Road") dx (roadFsZ true b t q))) = G0 at kp0 hR0 hp0 hd0 ⊢
    clear ks0 h1 h2 h3 h4 hd1 hp1 hR1 s1
    refine st_eq [some (.ref r), some .non, some (.ref p), v3, v4, some (.ref t), some (.ref q)] rfl ?_
    refine ⟨_, rfl, p, ds, rfl, SqT.of hp0, for_it (walk_enumT (K := K) (a := p) (xs := ds)) (fun i σ G => Kp r H G ∧ RoadZ K G r b (ss ++ us.take i) true ∧ G p = some (.tup ds) ∧ StepsAt K G ds us ∧ ∃ v3 v4 : Option V, σ = [some (.ref r), some .non, some (.ref p), v3, v4, some (.ref t), some (.ref q)]) ⟨kp0, by rw [List.take_zero, List.append_nil]; exact hR0, hp0, hd0, v3, v4, rfl⟩ (fun _ _ H' _ h => SqT.of h.2.2.1) ?_ ?_⟩
    · rintro i x σ G1 G2 hi ⟨kp1, hZ, hpG, hdG, v3, v4, rfl⟩ ⟨T2, x1, x2, rfl, hT2, rfl, e1, e2⟩
      cases e1
      obtain ⟨u, st, rfl, hst, hu⟩ := hdG.get e2
      have il : i < us.length := (List.getElem?_eq_some_iff.mp hst).1
      have s2 := up (o := .tup [.int (i : Nat), .ref u]) hT2
      have hu := hu.keeps (.same s2)
      have hZ := hZ.same s2
      have et : us.take (i + 1) = us.take i ++ [st] := by
        rw [List.take_succ, hst]
        rfl
      have at_ : (ss ++ us)[ss.length + i]? = some st := by
        rw [List.getElem?_append_right (Nat.le_add_right _ _), Nat.add_sub_cancel_left]
        exact hst
      have sok := rb.at_ at_
      have etk : (ss ++ us).take (ss.length + i) = ss ++ us.take i := List.take_length_add_append i
      rw [etk] at sok
      refine ⟨T2, _, rfl, SqT.of upd_same, rfl, _, _, rfl, _, _, rfl, rfl, ?_⟩
      refine ⟨_, rfl, _, rfl, true, r, u, b, ss ++ us.take i, st, rfl, hZ, by rw [List.length_append, List.length_take]; omega, hu, sok, fun G3 kp3 hZ3 => ?_⟩
      rw [List.append_assoc, ← et] at hZ3
      obtain ⟨dz, fz, hz⟩ : ∃ dz fz, (upd G1 T2 (.tup [.int (i : Nat), .ref u])) r = some (.ins (He.ga K "Road") dz fz) := by
        obtain ⟨⟨dz, tz, qz, xz, z1, _⟩, _⟩ := hZ
        exact ⟨_, _, z1⟩
      have ks3 := Keeps.road T.ne_Road_Wrap T.ne_Road_Stack hz kp3
      refine ⟨_, rfl, rfl, _, rfl, ifn (fun c => absurd rfl c) (fun _ => ?_)⟩
      exact ⟨(kp1.trans fun y o n e => s2 _ _ e).trans kp3, hZ3, ks3.tup (s2 _ _ hpG), (hdG.keeps (.same s2)).keeps ks3, _, _, rfl⟩
    rintro σ G ⟨kpG, hZ, _, _, v3, v4, rfl⟩
    rw [hxl, List.take_length] at hZ
    obtain ⟨⟨dz, tz, qz, xz, z1, z2, z3, z4⟩, rbz, _, _, lz⟩ := id hZ
    refine ⟨_, rfl, r, _, dz, _, rfl, z1, T.cl_Road, T.na_Road_busy, (show (4 : Nat) < 1000 by decide), ?_⟩
    have ks9 : Keeps K G (upd G r (.ins (He.ga K "Road") dz (roadFsZ false b tz qz))) := Keeps.road T.ne_Road_Wrap T.ne_Road_Stack z1 (Kp.set (Kp.refl r G))
    refine ⟨_, rfl, rfl, _, rfl, ifn (fun c => absurd rfl c) (fun _ => ?_)⟩
    exact k _ (Kp.set kpG) ⟨⟨dz, tz, qz, xz, upd_same, ks9.tup z2, z3.keeps ks9, z4.keeps ks9⟩, rbz, b0, b1, lz⟩
end
section
variable {P : Program} {w : World} {K : PySem.W.Frag} {mg : Str → Option Value} {base : Heap}
theorem ok_L_on (T : Tx w K mg) : Prom P w K mg base CX0 2 "_law_on" s_L_on ["_law_moves_here"] spLOn := by
  refine Prom.of T.d_L_on sc_L_on (fun vs H Q E h => ?_) (fun _ _ _ _ _ _ us hl => match us, hl with | [_], _ => rfl) (fun f cdv A outer s H vs Q E hr h => ?_)
  · obtain ⟨l, xs, ss, b, rfl, _⟩ := h
    rfl
  · obtain ⟨l, xs, ss, b, rfl, hl, hm, rb, b0, b1, k⟩ := h
    refine ⟨_, (pss_cons (ps_set (i := 1) sc_L_on.nd rfl (Or.inl rfl) (pe_lst pa_nil))
      (pss_cons (ps_for PassesOwn.never (by rfl) (pi_list (pv 0)) (pg_name (i := 2) sc_L_on.nd rfl (Or.inl rfl)) (pss_one (ps_expr (pe_callP (ok_L_put T) (hr.mono (by decide)) (by rfl) pass0 (pa_cons (pv 1) (pa_cons (pv 2) pa_nil))))))
      (pss_one (ps_ret (pv 1))))), ?_⟩
    refine ⟨Nat.zero_le _, fun lo hlo => ?_⟩
    have nl : l ≠ lo := ne_of_none hl hlo
    refine ⟨_, rfl, l, rfl, ⟨_, SqL.of (up hlo _ _ hl)⟩, for_list (K := K) (a := l) (xs := xs) (fun i σ H' => Same H H' ∧ ∃ (ys : List V) (v : Option V), H' lo = some (.lst ys) ∧ TagsAt H' ys (onL (ss.take i)) ∧ σ = [some (.ref l), some (.ref lo), v]) ⟨up hlo, [], none, upd_same, .nil, rfl⟩ (fun i σ H' _ h => SqL.of (h.1 _ _ hl)) ?_ ?_⟩
    · rintro i x σ H' hi ⟨hs, ys, v, ho, ht, rfl⟩
      obtain ⟨q, st, rfl, hq, mv⟩ := hm.get hi
      have et : ss.take (i + 1) = ss.take i ++ [st] := by
        rw [List.take_succ, hq]
        rfl
      have sok := rb.at_ hq
      have so := (rb.take i).stk b0 b1
      refine ⟨_, rfl, _, rfl, lo, q, ys, _, st, rfl, ho, ht, so.len, mv.same hs, fun e => ?_, fun ys' ht4 => ?_⟩
      · rw [e] at sok
        exact sok
      refine ⟨fun y o e => ?_, ys', _, upd_same, ?_, rfl⟩
      · rw [upd_ne (ne_of_none e hlo)]
        exact hs _ _ e
      · rw [et, onL_snoc]
        exact ht4.put ho
    · rintro σ H' ⟨hs, ys, v, ho, ht, rfl⟩
      rw [hm.len, List.take_length] at ht
      exact ⟨_, rfl, k lo ys H' hlo hs ho ht⟩
end
theorem sm_drew {p : Addr} {H H1 H2 : Hp} (s : Same H H1) (d : Drew p H1 H2) (h : H p = none) : Same H H2 := fun b o e => d.kp b o (ne_of_none e h) (s b o e)
theorem sm_kp {p : Addr} {H H1 H2 : Hp} (s : Same H H1) (d : Kp p H1 H2) (h : H p = none) : Same H H2 := fun b o e => d b o (ne_of_none e h) (s b o e)
def spRightI : Sp := fun vs H Q _ => ∃ (c : Int), vs = [.int c] ∧ ∀ H', Same H H' → Q (.bl true) H'
theorem RoadAt.ins {K : PySem.W.Frag} {H : Hp} {r : Addr} {b : Int} {ss : List Stp} (h : RoadAt K H r b ss) : ∃ dx fs, H r = some (.ins (He.ga K "Road") dx fs) := by
  obtain ⟨dx, t, q, xs, h1, _⟩ := h.at_
  exact ⟨dx, _, h1⟩
theorem MoveAt.kp {K : PySem.W.Frag} {H H' : Hp} {r m dr : Addr} {fs : List (Str × V)} {s : Stp} (h : MoveAt H m s) (hr : H r = some (.ins (He.ga K "Road") dr fs)) (k : Kp r H H') : MoveAt H' m s := by
  have ne : ∀ {q : Addr} {xs : List V}, H q = some (.tup xs) → H' q = some (.tup xs) := fun {q xs} e => k _ _ (fun z => by rw [z, hr] at e; cases e) e
  cases s with
  | push a =>
    obtain ⟨q, h1, h2⟩ := h
    exact ⟨q, ne h1, ne h2⟩
  | pop => exact ne h
  | bound n => exact ne h
theorem MovesAt.kp {K : PySem.W.Frag} {H H' : Hp} {r dr : Addr} {fs : List (Str × V)} {xs : List V} {ss : List Stp} (h : MovesAt H xs ss) (hr : H r = some (.ins (He.ga K "Road") dr fs)) (k : Kp r H H') : MovesAt H' xs ss := by
  induction h with
  | nil => exact .nil
  | cons h _ ih => exact .cons (h.kp hr k) ih
theorem TagsAt.kp {K : PySem.W.Frag} {H H' : Hp} {r dr : Addr} {fs : List (Str × V)} {xs : List V} {ws : List Wr} (h : TagsAt H xs ws) (hr : H r = some (.ins (He.ga K "Road") dr fs)) (k : Kp r H H') : TagsAt H' xs ws := by
  induction h with
  | nil => exact .nil
  | @cons p a xs ws h _ ih =>
    refine .cons ?_ ih
    have h : H p = _ := h
    exact k _ _ (fun z => by rw [z, hr] at h; cases h) h
def spGo (K : PySem.W.Frag) : Sp := fun vs H Q _ => ∃ (r m : Addr) (b : Int) (ss : List Stp) (s : Stp), vs = [.ref r, .ref m] ∧ RoadAt K H r b ss ∧ ss.length < 1000 ∧ MoveAt H m s ∧ stepOk b (onL ss) s ∧ ∀ H', Kp r H H' → RoadAt K H' r b (ss ++ [s]) → Q .non H'
section
variable {P : Program} {w : World} {K : PySem.W.Frag} {mg : Str → Option Value} {base : Heap}
theorem ok_L_go (T : Tx w K mg) : Prom P w K mg base CX0 9 "_law_go" s_L_go ["_law_track_here", "_law_move_here"] (spGo K) := by
  refine Prom.of T.d_L_go sc_L_go (fun vs H Q E h => ?_) (fun _ _ _ _ _ _ us hl => match us, hl with | [_, _], _ => rfl) (fun f cdv A outer s H vs Q E hr h => ?_)
  · obtain ⟨r, m, b, ss, st, rfl, _⟩ := h
    rfl
  · obtain ⟨r, m, b, ss, st, rfl, hR, hl, mv, sok, k⟩ := h
    obtain ⟨dx, t, q, xs, h1, h2, h3, h4⟩ := hR.at_
    refine ⟨_, (pss_cons (ps_if (pt_cmpR op_eq (pe_ix ix_tup (pv 1) pe_int (fun _ _ => rfl)) pe_str (nomark _)) (pss_one (ps_ret (pe_methP (ok_Road_push T) (hr.mono (by decide)) pass0 (pv 0) (pa_cons (pe_callP (ok_L_made T) (hr.mono (by decide)) (by rfl) pass0 (pa_cons (pe_ix ix_tup (pv 1) pe_int (fun _ _ => rfl)) pa_nil)) pa_nil)))) pss_nil)
      (pss_one (ps_ret (pe_ifExp (pt_cmpR op_eq (pe_ix ix_tup (pv 1) pe_int (fun _ _ => rfl)) pe_str (nomark _)) (pe_methP0 (ok_Road_pop T) (hr.mono (by decide)) pass0 (pv 0)) (pe_methP (ok_Road_bound T) (hr.mono (by decide)) pass0 (pv 0) (pa_cons (pe_ix ix_tup (pv 1) pe_int (fun _ _ => rfl)) pa_nil)))))), ?_⟩
    cases st with
    | push a =>
      obtain ⟨u, g1, g2⟩ := mv
      have aok : a.ok := sok.ok a (by simp)
      refine ⟨_, rfl, m, _, _, _, rfl, rfl, SqT.of g1, rfl, rfl, _, rfl, ifd_pos rfl ?_⟩
      refine ⟨_, rfl, r, dx, _, rfl, h1, rfl, _, rfl, m, _, _, _, rfl, rfl, SqT.of g1, rfl, u, a, rfl, g2, aok, fun y H1 ny s1 wy => ?_⟩
      exact ⟨r, y, b, ss, a, rfl, hR.same s1, hl, wy, sok, fun H2 kp hR2 => k _ (fun z o n e => kp z o n (s1 _ _ e)) hR2⟩
    | pop =>
      have g1 : H m = _ := mv
      refine ⟨_, rfl, m, _, _, _, rfl, rfl, SqT.of g1, rfl, rfl, _, rfl, ifs_neg (show ("pop" : Str) ≠ "push" by decide) ?_⟩
      refine ⟨_, rfl, m, _, _, _, rfl, rfl, SqT.of g1, rfl, rfl, _, rfl, ifd_pos rfl ?_⟩
      exact ⟨_, rfl, r, dx, _, rfl, h1, rfl, r, b, ss, rfl, hR, hl, sok, k⟩
    | bound n =>
      have g1 : H m = _ := mv
      refine ⟨_, rfl, m, _, _, _, rfl, rfl, SqT.of g1, rfl, rfl, _, rfl, ifs_neg (show ("bound" : Str) ≠ "push" by decide) ?_⟩
      refine ⟨_, rfl, m, _, _, _, rfl, rfl, SqT.of g1, rfl, rfl, _, rfl, ifs_neg (show ("bound" : Str) ≠ "pop" by decide) ?_⟩
      exact ⟨_, rfl, r, dx, _, rfl, h1, rfl, _, rfl, m, _, _, _, rfl, rfl, SqT.of g1, rfl, r, b, n, ss, rfl, hR, hl, sok.1, sok.2, k⟩
end
def spTrack (K : PySem.W.Frag) : Sp := fun vs H Q _ => ∃ (l : Addr) (xs : List V) (ss : List Stp) (b : Int), vs = [.ref l, .int b] ∧ H l = some (.lst xs) ∧ MovesAt H xs ss ∧ RoadB b ss ∧ ss.length < 900 ∧ 2 ≤ b ∧ b ≤ 256 ∧ ∀ r H', H r = none → Same H H' → RoadAt K H' r b ss → Q (.ref r) H'
section
variable {P : Program} {w : World} {K : PySem.W.Frag} {mg : Str → Option Value} {base : Heap}
theorem ok_L_track (T : Tx w K mg) : Prom P w K mg base CX0 10 "_law_track" s_L_track ["_law_moves_here", "_law_b"] (spTrack K) := by
  refine Prom.of T.d_L_track sc_L_track (fun vs H Q E h => ?_) (fun _ _ _ _ _ _ us hl => match us, hl with | [_, _], _ => rfl) (fun f cdv A outer s H vs Q E hr h => ?_)
  · obtain ⟨l, xs, ss, b, rfl, _⟩ := h
    rfl
  · obtain ⟨l, xs, ss, b, rfl, hl, hm, rb, len, b0, b1, k⟩ := h
    refine ⟨_, (pss_cons (ps_set (i := 2) sc_L_track.nd rfl (Or.inl rfl) (pe_newP (ok_Road T) (hr.mono (by decide)) (by rfl) pass0 (pa_cons (pv 1) pa_nil)))
      (pss_cons (ps_for PassesOwn.never (by rfl) (pi_list (pv 0)) (pg_name (i := 3) sc_L_track.nd rfl (Or.inl rfl)) (pss_one (ps_expr (pe_callP (ok_L_go T) (hr.mono (by decide)) (by rfl) pass0 (pa_cons (pv 2) (pa_cons (pv 3) pa_nil))))))
      (pss_one (ps_ret (pv 2))))), ?_⟩
    refine ⟨_, rfl, b, rfl, b0, b1, fun r H1 nr s1 hR => ?_⟩
    refine ⟨_, rfl, l, rfl, ⟨_, SqL.of (s1 _ _ hl)⟩, for_list (K := K) (a := l) (xs := xs) (fun i σ H' => Same H H' ∧ RoadAt K H' r b (ss.take i) ∧ ∃ v, σ = [some (.ref l), some (.int b), some (.ref r), v]) ⟨s1, hR, none, rfl⟩ (fun i σ H' _ h => SqL.of (h.1 _ _ hl)) ?_ ?_⟩
    · rintro i x σ H' hi ⟨hs, hR, v, rfl⟩
      obtain ⟨q, st, rfl, hq, mv⟩ := hm.get hi
      have et : ss.take (i + 1) = ss.take i ++ [st] := by
        rw [List.take_succ, hq]
        rfl
      refine ⟨_, rfl, _, rfl, r, q, b, ss.take i, st, rfl, hR, by rw [List.length_take]; omega, mv.same hs, rb.at_ hq, fun H2 kp hR2 => ?_⟩
      rw [← et] at hR2
      exact ⟨sm_kp hs kp nr, hR2, _, rfl⟩
    · rintro σ H' ⟨hs, hR, v, rfl⟩
      rw [hm.len, List.take_length] at hR
      exact ⟨_, rfl, k r H' nr hs hR⟩
end
/-! ### a step taken away -/
def spUndo (K : PySem.W.Frag) : Sp := fun vs H Q _ => ∃ (r : Addr) (b : Int) (ss : List Stp) (s : Stp), vs = [.ref r] ∧ RoadAt K H r b (ss ++ [s]) ∧ ∀ H', Kp r H H' → RoadAt K H' r b ss → Q .non H'
theorem cut_last {x : V} {xs : List V} : cutV (xs ++ [x]) none (some (-1)) = xs := by
  unfold cutV
  have h : HT.sIx (xs ++ [x]).length (xs ++ [x]).length (some (-1)) = xs.length := by
    have e : (xs ++ [x]).length = xs.length + 1 := by rw [List.length_append]; rfl
    rw [e]
    unfold HT.sIx
    simp
    omega
  rw [h, HT.sIx_none]
  simp
section
variable {P : Program} {w : World} {K : PySem.W.Frag} {mg : Str → Option Value} {base : Heap}
theorem ok_Road_undo (T : Tx w K mg) : PromM P w K mg base CX0 8 "Road" "undo" ["self"] (spUndo K) := by
  refine PromM.of T.cl_Road T.me_Road_undo T.dm_Road_undo sc_Road_undo (fun vs H Q E h => ?_) (fun _ _ _ _ _ _ us hl => match us, hl with | [_], _ => rfl) (fun f cdv A outer s H vs Q E hr h => ?_)
  · obtain ⟨r, b, ss, s, rfl, _⟩ := h
    rfl
  · obtain ⟨r, b, ss, s, rfl, hR, k⟩ := h
    obtain ⟨dx, t, q, xs, h1, h2, h3, h4⟩ := hR.at_
    refine ⟨_, (pss_cons (ps_expr (pe_callP (ok_check_free T) (hr.mono (by decide)) (by rfl) pass0 (pa_cons (pv 0) pa_nil)))
      (pss_cons (ps_if (pt_cmp (pc_eqI (pe_callB call_len_seq (by rfl) T.b_len (by decide +kernel) (pa_cons (pe_fld (pv 0) rfl) pa_nil)) pe_int)) (pss_one ps_never) pss_nil)
      (pss_cons (ps_fld (pv 0) (pe_slice sl_tup (pe_fld (pv 0) rfl) po_none (po_some (pe_un un_neg pe_int))) rfl)
      (pss_one (ps_fld (pv 0) (pe_callP (ok_stack_behind T) (hr.mono (by decide)) (by rfl) pass0 (pa_cons (pe_fld (pv 0) rfl) (pa_cons (pe_fld (pv 0) rfl) pa_nil))) rfl))))), ?_⟩
    refine ⟨_, rfl, r, b, _, rfl, hR, ?_⟩
    have hxl := h3.len
    have hxl : xs.length = ss.length + 1 := by rw [hxl, List.length_append]; rfl
    obtain ⟨xs', x, rfl⟩ : ∃ xs' x, xs = xs' ++ [x] := by
      cases e : xs.reverse with
      | nil =>
        have := congrArg List.length e
        rw [List.length_reverse] at this
        simp only [List.length_nil] at this
        omega
      | cons y ys => exact ⟨ys.reverse, y, by rw [← List.reverse_reverse xs, e]; simp⟩
    have h3' : StepsAt K H xs' ss := by
      have := h3.take ss.length
      rw [List.take_left] at this
      have e : (xs' ++ [x]).take ss.length = xs' := by
        rw [List.length_append] at hxl
        have : xs'.length = ss.length := by simp at hxl; exact hxl
        rw [← this, List.take_left]
      rw [e] at this
      exact this
    have rb' : RoadB b ss := by
      have := hR.rb.take ss.length
      rw [List.take_left] at this
      exact this
    have hlen := hR.len
    rw [List.length_append] at hlen
    refine ⟨_, rfl, r, _, dx, _, _, rfl, h1, T.cl_Road, T.na_Road_steps, rfl, t, _, rfl, .inr (SqT.of h2), _, _, rfl, rfl, _, rfl, ifd (fun c => ?_) (fun _ => ?_)⟩
    · have c : ((xs' ++ [x]).length : Int) = 0 := c
      rw [List.length_append] at c
      simp at c
      omega
    have no : ¬ (HT.sIx (xs' ++ [x]).length 0 none = 0 ∧ HT.sIx (xs' ++ [x]).length (xs' ++ [x]).length (some (-1)) = (xs' ++ [x]).length) := fun z => by
      have z := z.2
      have e : (xs' ++ [x]).length = xs'.length + 1 := by rw [List.length_append]; rfl
      rw [e] at z
      unfold HT.sIx at z
      simp at z
      omega
    refine ⟨_, rfl, r, _, dx, _, _, rfl, h1, T.cl_Road, T.na_Road_steps, rfl, _, rfl, _, rfl, t, _, rfl, SqT.of h2, no, fun t2 ht2 => ?_⟩
    rw [cut_last]
    have s2 : Same H (upd H t2 (.tup xs')) := up ht2
    refine ⟨_, rfl, r, _, dx, _, rfl, s2 _ _ h1, T.cl_Road, T.na_Road_steps, (show (4 : Nat) < 1000 by decide), ?_⟩
    have nr2 : t2 ≠ r := fun z => by
      rw [← z, ht2] at h1
      cases h1
    have g1 : ∀ o, (upd (upd H t2 (.tup xs')) r o) t2 = some (.tup xs') := fun o => by
      rw [upd_ne nr2, upd_same]
    have kp1 : Kp r H (upd (upd H t2 (.tup xs')) r (.ins (He.ga K "Road") dx (roadFs b t2 q))) := Kp.set (fun y o n e => s2 _ _ e)
    have ks1 := Keeps.road T.ne_Road_Wrap T.ne_Road_Stack h1 kp1
    have st1 : StepsAt K (upd (upd H t2 (.tup xs')) r (.ins (He.ga K "Road") dx (roadFs b t2 q))) xs' ss := h3'.keeps ks1
    refine ⟨_, rfl, r, _, dx, _, _, rfl, upd_same, T.cl_Road, T.na_Road_base, rfl, _, rfl, r, _, dx, _, _, rfl, upd_same, T.cl_Road, T.na_Road_steps, rfl, t2, _, b, _, rfl, g1 _, st1, rb', hR.b0, hR.b1, fun q3 H3 nq3 s3 stk3 => ?_⟩
    refine ⟨_, rfl, r, _, dx, _, rfl, s3 _ _ upd_same, T.cl_Road, T.na_Road_stack, (show (4 : Nat) < 1000 by decide), ?_⟩
    have kp2 : Kp r H (upd H3 r (.ins (He.ga K "Road") dx (roadFs b t2 q3))) := Kp.set (fun y o n e => s3 _ _ (kp1 y o n e))
    have ks2 : Keeps K H3 (upd H3 r (.ins (He.ga K "Road") dx (roadFs b t2 q3))) := Keeps.road T.ne_Road_Wrap T.ne_Road_Stack (s3 _ _ upd_same) (Kp.set (Kp.refl r H3))
    exact k _ kp2 ⟨⟨dx, t2, q3, _, upd_same, ks2.tup (s3 _ _ (g1 _)), (st1.keeps (.same s3)).keeps ks2, stk3.keeps ks2⟩, rb', hR.b0, hR.b1, by omega⟩
end
/-! ### the greatest length within a bound -/
def IsG (b : Int) (ws : List Wr) (m k : Int) : Prop := -1 ≤ k ∧ k ≤ m ∧ ∀ n, 0 ≤ n → (grS b ws n ≤ m ↔ n ≤ k)
theorem isG_eq {b : Int} {ws : List Wr} {m k l : Int} (h : IsG b ws m k) (g : IsG b ws m l) : k = l := by
  obtain ⟨h0, h1, h2⟩ := h
  obtain ⟨g0, g1, g2⟩ := g
  by_cases z : k < l
  · have := (h2 l (by omega)).mp ((g2 l (by omega)).mpr (Int.le_refl l))
    omega
  · by_cases y : l < k
    · have := (g2 k (by omega)).mp ((h2 k (by omega)).mpr (Int.le_refl k))
      omega
    · omega
open Classical in
noncomputable def gwI (b : Int) (ws : List Wr) (m : Int) : Int := if h : ∃ k, IsG b ws m k then choose h else 0
theorem gwI_eq {b : Int} {ws : List Wr} {m k : Int} (h : IsG b ws m k) : gwI b ws m = k := by
  have e : ∃ k, IsG b ws m k := ⟨k, h⟩
  unfold gwI
  rw [dif_pos e]
  exact isG_eq (Classical.choose_spec e) h
noncomputable def gwV (b : Int) (ws : List Wr) (m : Int) : V := if gwI b ws m < 0 then .non else .int (gwI b ws m)
def spWithin (K : PySem.W.Frag) : Sp := fun vs H Q _ => ∃ (q : Addr) (b m : Int) (ws : List Wr), vs = [.ref q, .int m] ∧ StkAt K H q b ws ∧ StkOk b ws ∧ 0 ≤ m ∧ m ≤ 10 ^ 60 - 1 ∧ (IsG b ws m (gwI b ws m) → Q (gwV b ws m) H)
section
variable {P : Program} {w : World} {K : PySem.W.Frag} {mg : Str → Option Value} {base : Heap}
theorem ok_greatest_within (T : Tx w K mg) : Prom P w K mg base CX0 5 "greatest_within" s_greatest_within ["stack", "bound"] (spWithin K) := by
  refine Prom.of T.d_greatest_within sc_greatest_within (fun vs H Q E h => ?_) (fun _ _ _ _ _ _ us hl => match us, hl with | [_, _], _ => rfl) (fun f cdv A outer s H vs Q E hr h => ?_)
  · obtain ⟨q, b, m, ws, rfl, _⟩ := h
    rfl
  · obtain ⟨q, b, m, ws, rfl, hS, so, m0, m1, k⟩ := h
    obtain ⟨dx, t, xs, g1, g2, g3⟩ := id hS
    have small : ∀ n : Int, n ≤ m → n < 2 ^ 1000 := fun n hn => Int.lt_of_le_of_lt (show n ≤ 10 ^ 60 - 1 by omega) (by decide)
    refine ⟨_, (pss_cons (ps_if (pt_cmp (pc_gt (pe_methP (ok_Stack_grown T) (hr.mono (by decide)) pass0 (pv 0) (pa_cons pe_int pa_nil)) (pv 1))) (pss_one (ps_ret pe_non)) pss_nil)
      (pss_cons (ps_par (i := 2) (j := 3) (by rfl) sc_greatest_within.nd rfl rfl (by decide) rfl rfl (pa_cons pe_int (pa_cons (pe_op op_add (pv 1) pe_int) pa_nil)) (by rfl))
      (pss_cons (ps_while PassesOwn.never (pt_cmp (pc_gt (pe_op op_sub (pv 3) (pv 2)) pe_int)) (pss_cons (ps_set (i := 4) sc_greatest_within.nd rfl (Or.inl rfl) (pe_op op_fdiv (pe_op op_add (pv 2) (pv 3)) pe_int))
      (pss_one (ps_if (pt_cmp (pc_le (pe_methP (ok_Stack_grown T) (hr.mono (by decide)) pass0 (pv 0) (pa_cons (pv 4) pa_nil)) (pv 1))) (pss_one (ps_set (i := 2) sc_greatest_within.nd rfl (Or.inl rfl) (pv 4))) (pss_one (ps_set (i := 3) sc_greatest_within.nd rfl (Or.inl rfl) (pv 4)))))))
      (pss_one (ps_ret (pv 2)))))), ?_⟩
    refine ⟨_, rfl, q, dx, _, rfl, g1, rfl, q, b, ws, 0, rfl, hS, so, by decide, by decide, _, rfl, _, _, rfl, rfl, _, rfl, ifd (fun c => ?_) (fun c => ?_)⟩
    · have c : grS b ws 0 > m := c
      have ig : IsG b ws m (-1) := ⟨by omega, by omega, fun n hn => by
        have := grS_mono so.b0 ws so.ok (n := 0) (k := n) (by omega) hn
        omega⟩
      have e := gwI_eq ig
      have k2 := k (by rw [e]; exact ig)
      unfold gwV at k2
      rw [e, if_pos (by decide)] at k2
      exact k2
    · have c : ¬ grS b ws 0 > m := c
      refine ⟨_, rfl, _, _, rfl, rfl, _, _, rfl, ?_⟩
      refine ⟨fun mm σ H1 => H1 = H ∧ ∃ (lo hi : Int) (v : Option V), 0 ≤ lo ∧ lo < hi ∧ hi ≤ m + 1 ∧ grS b ws lo ≤ m ∧ (hi = m + 1 ∨ m < grS b ws hi) ∧ mm = (hi - lo).toNat ∧ σ = [some (.ref q), some (.int m), some (.int lo), some (.int hi), v],
        ⟨_, rfl, 0, m + 1, none, by omega, by omega, by omega, by omega, .inl rfl, rfl, rfl⟩, ?_⟩
      rintro mm σ H1 ⟨rfl, lo, hi, v, l0, l1, l2, l3, l4, rfl, rfl⟩
      refine ⟨_, rfl, _, rfl, _, _, rfl, rfl, _, _, rfl, rfl, _, rfl, ifd (fun z => ?_) (fun z => ?_)⟩
      · have z : hi - lo > 1 := z
        refine ⟨_, fun σ' H' h => h, ?_⟩
        refine ⟨_, rfl, _, rfl, _, _, rfl, rfl, _, _, rfl, rfl, ⟨by decide, by decide⟩, ?_⟩
        refine ⟨_, rfl, q, dx, _, rfl, g1, rfl, _, rfl, q, b, ws, (lo + hi) / 2, rfl, hS, so, by omega, small _ (by omega), _, rfl, _, _, rfl, rfl, _, rfl, ifd (fun y => ?_) (fun y => ?_)⟩
        · exact ⟨_, rfl, _, by omega, rfl, (lo + hi) / 2, hi, _, by omega, by omega, l2, y, l4, rfl, rfl⟩
        · have y : ¬ grS b ws ((lo + hi) / 2) ≤ m := y
          exact ⟨_, rfl, _, by omega, rfl, lo, (lo + hi) / 2, _, l0, by omega, by omega, l3, .inr (by omega), rfl, rfl⟩
      · have z : ¬ hi - lo > 1 := z
        have ig : IsG b ws m lo := ⟨by omega, by omega, fun n hn => ⟨fun y => ?_, fun y => ?_⟩⟩
        · have e := gwI_eq ig
          have k2 := k (by rw [e]; exact ig)
          unfold gwV at k2
          rw [e, if_neg (by omega)] at k2
          exact ⟨_, rfl, k2⟩
        · by_cases u : n ≤ lo
          · exact u
          · exfalso
            rcases l4 with l4 | l4
            · have := grS_ge so.b0 ws so.ok hn
              omega
            · have := grS_mono so.b0 ws so.ok (n := hi) (k := n) (by omega) (by omega)
              omega
        · have := grS_mono so.b0 ws so.ok (n := n) (k := lo) hn y
          omega
end
def spAlong (K : PySem.W.Frag) : Sp := fun vs H Q _ => ∃ (t : Addr) (xs : List V) (ss : List Stp) (n b : Int), vs = [.int b, .ref t, .int n] ∧ H t = some (.tup xs) ∧ StepsAt K H xs ss ∧ RoadB b ss ∧ ss.length ≤ 1000 ∧ 2 ≤ b ∧ b ≤ 256 ∧ 0 ≤ n ∧ n ≤ 10 ^ 60 - 1 ∧ ∀ q H', H q = none → Same H H' → H' q = some (.lst ((trailL b ss n (ss.length + 1)).map V.int)) → Q (.ref q) H'
def spRSizes (K : PySem.W.Frag) : Sp := fun vs H Q _ => ∃ (r : Addr) (ss : List Stp) (n b : Int), vs = [.ref r, .int n] ∧ RoadAt K H r b ss ∧ 0 ≤ n ∧ n ≤ 10 ^ 60 - 1 ∧ ∀ q H', H q = none → Same H H' → H' q = some (.tup ((trailL b ss n (ss.length + 1)).map V.int)) → Q (.ref q) H'
def spFits (K : PySem.W.Frag) : Sp := fun vs H Q _ => ∃ (r : Addr) (ss : List Stp) (n b : Int), vs = [.ref r, .int n] ∧ RoadAt K H r b ss ∧ 0 ≤ n ∧ n ≤ 10 ^ 60 - 1 ∧ ∀ v H', (v = true ↔ fitsP b ss n) → Same H H' → Q (.bl v) H'
section
variable {P : Program} {w : World} {K : PySem.W.Frag} {mg : Str → Option Value} {base : Heap}
theorem ok_sizes_along (T : Tx w K mg) : Prom P w K mg base CX0 4 "sizes_along" s_sizes_along ["base", "steps", "length"] (spAlong K) := by
  refine Prom.of T.d_sizes_along sc_sizes_along (fun vs H Q E h => ?_) (fun _ _ _ _ _ _ us hl => match us, hl with | [_, _, _], _ => rfl) (fun f cdv A outer s H vs Q E hr h => ?_)
  · obtain ⟨t, xs, ss, n, b, rfl, _⟩ := h
    rfl
  · obtain ⟨t, xs, ss, n, b, rfl, ht, hm, rb, len, b0, b1, n0, n1, k⟩ := h
    refine ⟨_, (pss_cons (ps_par (i := 3) (j := 4) (by rfl) sc_sizes_along.nd rfl rfl (by decide) rfl rfl (pa_cons (pe_lst (pa_cons (pv 2) pa_nil)) (pa_cons (pe_lst pa_nil) pa_nil)) (by rfl))
      (pss_cons (ps_for PassesOwn.never (by rfl) (pi_tup (pv 1)) (pg_name (i := 5) sc_sizes_along.nd rfl (Or.inl rfl)) (pss_cons (ps_set (i := 6) sc_sizes_along.nd rfl (Or.inl rfl) (pe_ix ix_list (pv 3) (pe_un un_neg pe_int) (fun _ _ => rfl)))
      (pss_cons (ps_if (pt_cmpR op_eq (pe_ix ix_tup (pv 5) pe_int (fun _ _ => rfl)) pe_str (nomark _)) (pss_cons (ps_expr (pe_bm PySem.F.plainAttrs_list PySem.F.slot_list_append PySem.F.type_list_append mt_append (pv 4) (pa_cons (pv 6) pa_nil)))
      (pss_one (ps_set (i := 6) sc_sizes_along.nd rfl (Or.inl rfl) (pe_methP (ok_Wrap_grown T) (hr.mono (by decide)) pass0 (pe_ix ix_tup (pv 5) pe_int (fun _ _ => rfl)) (pa_cons (pv 6) (pa_cons (pv 0) pa_nil)))))) (pss_one (ps_if (pt_cmpR op_eq (pe_ix ix_tup (pv 5) pe_int (fun _ _ => rfl)) pe_str (nomark _)) (pss_one (ps_set (i := 6) sc_sizes_along.nd rfl (Or.inl rfl) (pe_bm0 PySem.F.plainAttrs_list PySem.F.slot_list_pop PySem.F.type_list_pop mt_pop (pv 4)))) pss_nil)))
      (pss_one (ps_expr (pe_bm PySem.F.plainAttrs_list PySem.F.slot_list_append PySem.F.type_list_append mt_append (pv 3) (pa_cons (pv 6) pa_nil)))))))
      (pss_one (ps_ret (pv 3))))), ?_⟩
    refine ⟨_, rfl, (by show 1 ≤ sizeLine; decide), fun lf hlf => ⟨Nat.zero_le _, fun li hli => ⟨_, _, rfl, ?_⟩⟩⟩
    have nfi : lf ≠ li := ne_of_none upd_same hli
    have nli : H li = none := same_before (up hlf) hli
    refine ⟨_, rfl, t, rfl, ⟨_, SqT.of (up hli _ _ (up hlf _ _ ht))⟩, for_it (walk_tup (K := K) (a := t) (xs := xs)) (fun i σ H' => Same H H' ∧ ∃ (v1 v2 : Option V), H' lf = some (.lst ((trailL b ss n (i + 1)).map V.int)) ∧ H' li = some (.lst ((trS b (ss.take i) n).2.map V.int)) ∧ σ = [some (.int b), some (.ref t), some (.int n), some (.ref lf), some (.ref li), v1, v2])
      ⟨(up hlf).trans (up hli), none, none, up hli _ _ upd_same, upd_same, rfl⟩ (fun _ _ H' _ h => SqT.of (h.1 _ _ ht)) ?_ ?_⟩
    · rintro i x σ H0 H' hi ⟨hs, v1, v2, hf, hn, rfl⟩ ⟨rfl, hx⟩
      obtain ⟨q, st, rfl, hq, mv⟩ := hm.get hx
      have hil : i < ss.length := (List.getElem?_eq_some_iff.mp hq).1
      have et : ss.take (i + 1) = ss.take i ++ [st] := by
        rw [List.take_succ, hq]
        rfl
      have sok := rb.at_ hq
      have so := (rb.take i).stk b0 b1
      have e0 := trS_on (rb.take i) n
      have so6 := so.len
      have n2 : n < 2 ^ 200 := Int.lt_of_le_of_lt n1 (by decide)
      have bd := grS_pow b0 (onL (ss.take i)) so.ok (show 12 ≤ 200 by decide) n0 n2
      have c0 : 0 ≤ (trS b (ss.take i) n).1 := by
        rw [e0]
        exact bd.1
      have c1 : (trS b (ss.take i) n).1 < 2 ^ 3000 := by
        rw [e0]
        exact Int.lt_of_lt_of_le bd.2 (pow_mono (by decide) (by omega))
      have il : (trS b (ss.take i) n).2.length = (onL (ss.take i)).length := by
        rw [e0]
        exact inner_len _ _ _
      have mv := mv.keeps (.same hs)
      have et2 : trS b (ss.take (i + 1)) n = goT b (trS b (ss.take i) n) st := by rw [et, trS_snoc]
      have ef : (trailL b ss n (i + 1)).map V.int = (trailL b ss n i).map V.int ++ [.int (trS b (ss.take i) n).1] := by
        rw [trailL_succ, List.map_append]
        rfl
      refine ⟨_, rfl, _, rfl, lf, _, _, .int (trS b (ss.take i) n).1, rfl, rfl, SqL.of hf, by rw [ef]; exact atI_last1, ?_⟩
      rw [trailL_succ, et2]
      generalize trS b (ss.take i) n = z at c0 c1 il hn et2 ⊢
      have small : (trailL b ss n (i + 1)).length < sizeLine := by
        rw [trailL_len, sizeLine_eq]
        omega
      cases st with
      | push a =>
        obtain ⟨u, h1, h2⟩ := mv
        have ks : Keeps K H' (upd H' li (.lst (z.2.map V.int ++ [.int z.1]))) := .lst hn
        have aok : a.ok := sok.ok a (by simp)
        obtain ⟨du, pu, u1, u2⟩ := id (h2.keeps ks)
        refine ⟨_, rfl, q, _, _, _, rfl, rfl, SqT.of h1, rfl, rfl, _, rfl, ifd_pos rfl ?_⟩
        refine ⟨_, rfl, .inl ⟨rfl, _, SqL.of hn⟩, _, rfl, li, _, _, rfl, rfl, hn, ?_, ?_⟩
        · rw [List.length_map, il, sizeLine_eq]
          omega
        refine ⟨_, rfl, q, _, _, _, rfl, rfl, SqT.of (ks.tup h1), rfl, u, du, _, rfl, u1, rfl, _, rfl, _, rfl, a, u, z.1, b, rfl, h2.keeps ks, aok, b0, b1, c0, c1, ?_⟩
        have hf3 : (upd H' li (.lst (z.2.map V.int ++ [.int z.1]))) lf = some (.lst ((trailL b ss n (i + 1)).map V.int)) := by rw [upd_ne nfi]; exact hf
        refine ⟨_, rfl, .inl ⟨rfl, _, SqL.of hf3⟩, _, rfl, lf, _, _, rfl, rfl, hf3, by rw [List.length_map]; exact small, ?_⟩
        refine ⟨fun y o e => ?_, _, _, ?_, ?_, rfl⟩
        · rw [upd_ne (ne_of_none e hlf), upd_ne (ne_of_none e nli)]
          exact hs _ _ e
        · rw [upd_same, List.map_append]
          rfl
        · rw [upd_ne (Ne.symm nfi), upd_same]
          show _ = some (HO.lst ((z.2 ++ [z.1]).map V.int))
          rw [List.map_append]
          rfl
      | pop =>
        have h1 : H' q = _ := mv
        have ne : onL (ss.take i) ≠ [] := sok
        have zl : 0 < z.2.length := by
          have : (onL (ss.take i)).length ≠ 0 := fun y => ne (List.eq_nil_of_length_eq_zero y)
          omega
        refine ⟨_, rfl, q, _, _, _, rfl, rfl, SqT.of h1, rfl, rfl, _, rfl, ifs_neg (show ("pop" : Str) ≠ "push" by decide) ?_⟩
        refine ⟨_, rfl, q, _, _, _, rfl, rfl, SqT.of h1, rfl, rfl, _, rfl, ifd_pos rfl ?_⟩
        have eg : z.2.getLast?.getD 0 = z.2[z.2.length - 1]'(by omega) := by
          rw [List.getLast?_eq_getElem?, List.getElem?_eq_getElem (by omega)]
          rfl
        refine ⟨_, rfl, .inl ⟨rfl, _, SqL.of hn⟩, li, _, .int (z.2.getLast?.getD 0), rfl, rfl, hn, ?_, ?_⟩
        · rw [List.length_map, List.getElem?_map, List.getElem?_eq_getElem (by omega), eg]
          rfl
        have hf3 : (upd H' li (.lst (z.2.map V.int).dropLast)) lf = some (.lst ((trailL b ss n (i + 1)).map V.int)) := by rw [upd_ne nfi]; exact hf
        refine ⟨_, rfl, .inl ⟨rfl, _, SqL.of hf3⟩, _, rfl, lf, _, _, rfl, rfl, hf3, by rw [List.length_map]; exact small, ?_⟩
        refine ⟨fun y o e => ?_, _, _, ?_, ?_, rfl⟩
        · rw [upd_ne (ne_of_none e hlf), upd_ne (ne_of_none e nli)]
          exact hs _ _ e
        · rw [upd_same, List.map_append]
          rfl
        · rw [upd_ne (Ne.symm nfi), upd_same]
          show some (HO.lst (z.2.map V.int).dropLast) = some (HO.lst (z.2.dropLast.map V.int))
          rw [List.map_dropLast]
      | bound y =>
        have h1 : H' q = _ := mv
        refine ⟨_, rfl, q, _, _, _, rfl, rfl, SqT.of h1, rfl, rfl, _, rfl, ifs_neg (show ("bound" : Str) ≠ "push" by decide) ?_⟩
        refine ⟨_, rfl, q, _, _, _, rfl, rfl, SqT.of h1, rfl, rfl, _, rfl, ifs_neg (show ("bound" : Str) ≠ "pop" by decide) ?_⟩
        refine ⟨_, rfl, .inl ⟨rfl, _, SqL.of hf⟩, _, rfl, lf, _, _, rfl, rfl, hf, by rw [List.length_map]; exact small, ?_⟩
        refine ⟨fun y o e => ?_, _, _, ?_, ?_, rfl⟩
        · rw [upd_ne (ne_of_none e hlf)]
          exact hs _ _ e
        · rw [upd_same, List.map_append]
          rfl
        · rw [upd_ne (Ne.symm nfi)]
          exact hn
    · rintro σ H' ⟨hs, v1, v2, hf, hn, rfl⟩
      rw [hm.len] at hf
      exact ⟨_, rfl, k lf H' hlf hs hf⟩
theorem ok_Road_sizes (T : Tx w K mg) : PromM P w K mg base CX0 5 "Road" "sizes" ["self", "length"] (spRSizes K) := by
  refine PromM.of T.cl_Road T.me_Road_sizes T.dm_Road_sizes sc_Road_sizes (fun vs H Q E h => ?_) (fun _ _ _ _ _ _ us hl => match us, hl with | [_, _], _ => rfl) (fun f cdv A outer s H vs Q E hr h => ?_)
  · obtain ⟨r, ss, n, b, rfl, _⟩ := h
    rfl
  · obtain ⟨r, ss, n, b, rfl, hR, n0, n1, k⟩ := h
    obtain ⟨dx, t, q, xs, h1, h2, h3, h4⟩ := hR.at_
    refine ⟨_, (pss_cons (ps_expr (pe_callP (ok_check_length T) (hr.mono (by decide)) (by rfl) pass0 (pa_cons (pv 1) pa_nil)))
      (pss_one (ps_ret (pe_callTy call_tuple_of (by rfl) T.b_tuple (by decide +kernel) (pa_cons (pe_callP (ok_sizes_along T) (hr.mono (by decide)) (by rfl) pass0 (pa_cons (pe_fld (pv 0) rfl) (pa_cons (pe_fld (pv 0) rfl) (pa_cons (pv 1) pa_nil)))) pa_nil))))), ?_⟩
    refine ⟨_, rfl, n, rfl, n0, n1, ?_⟩
    refine ⟨_, rfl, r, _, dx, _, _, rfl, h1, T.cl_Road, T.na_Road_base, rfl, _, rfl, r, _, dx, _, _, rfl, h1, T.cl_Road, T.na_Road_steps, rfl, _, rfl, t, xs, ss, n, b, rfl, h2, h3, hR.rb, hR.len, hR.b0, hR.b1, n0, n1, fun l H1 nl s1 hl => ?_⟩
    exact ⟨l, _, rfl, .inl ⟨SqL.of hl, fun t2 ht2 => k t2 _ (same_before s1 ht2) (s1.trans (up ht2)) upd_same⟩⟩
theorem ok_Road_fits (T : Tx w K mg) : PromM P w K mg base CX0 6 "Road" "fits" ["self", "length"] (spFits K) := by
  refine PromM.of T.cl_Road T.me_Road_fits T.dm_Road_fits sc_Road_fits (fun vs H Q E h => ?_) (fun _ _ _ _ _ _ us hl => match us, hl with | [_, _], _ => rfl) (fun f cdv A outer s H vs Q E hr h => ?_)
  · obtain ⟨r, ss, n, b, rfl, _⟩ := h
    rfl
  · obtain ⟨r, ss, n, b, rfl, hR, n0, n1, k⟩ := h
    obtain ⟨dx, t, q, xs, h1, h2, h3, h4⟩ := hR.at_
    have hlx := h3.len
    refine ⟨_, (pss_cons (ps_set (i := 2) sc_Road_fits.nd rfl (Or.inl rfl) (pe_methP (ok_Road_sizes T) (hr.mono (by decide)) pass0 (pv 0) (pa_cons (pv 1) pa_nil)))
      (pss_one (ps_ret (pe_callB (cr_all rfl) (by rfl) T.b_all (by decide +kernel) (pa_cons (pe_lc (own := [("size", 3), ("step", 4)]) (g := (gTup K 2 (gCons (gName 3) (gCons (gName 4) gNil)))) (by rfl) sc_Road_fits.nd (RZ.pi_zipA (by rfl) T.b_zip (pa_cons (pv 2) (pa_cons (pe_fld (pv 0) rfl) pa_nil))) (blkOk_by (own := [("size", 3), ("step", 4)]) (N := ["self", "length", "sizes", "size", "step"]) (sc := defScope s_Road_fits) (by decide +kernel)) (fun _ _ _ _ _ => (pg_tup rfl (pgs_cons (pg_name (i := 3) sc_Road_fits.nd rfl (Or.inl rfl)) (pgs_cons (pg_name (i := 4) sc_Road_fits.nd rfl (Or.inl rfl)) pgs_nil)))) (fun _ _ _ _ _ => pts_one (pt_cmpR op_eq (pe_ix (show IxR _ (rIxT K) from ix_tup) (pv 4) pe_int (fun _ _ => rfl)) pe_str (nomark _))) (fun _ _ _ _ _ => (pe_cmpR op_le (pv 3) (pe_ix (show IxR _ (rIxT K) from ix_tup) (pv 4) pe_int (fun _ _ => rfl)) (nomark _)))) pa_nil))))), ?_⟩
    refine ⟨_, rfl, r, dx, _, rfl, h1, rfl, _, rfl, r, ss, n, b, rfl, hR, n0, n1, fun t1 H1 nt1 s1 ht1 => ?_⟩
    refine ⟨_, rfl, _, rfl, r, _, dx, _, _, rfl, s1 _ _ h1, T.cl_Road, T.na_Road_steps, rfl, t1, t, _, xs, rfl, .inr ⟨SqT.of ht1, SqT.of (s1 _ _ h2), fun D hD => ?_⟩⟩
    have hn : ss.length = min ((trailL b ss n (ss.length + 1)).map V.int).length xs.length := by
      rw [List.length_map, trailL_len]
      omega
    refine lc_it (walk_zipT (K := K) (a := t1) (b := t) (n := ss.length) hn) (fun i H' => Same H1 H' ∧ ∃ bs : List Bool, H' D = some (.lst (bs.map V.bl)) ∧ bs.length ≤ i ∧ (bs.all id = true ↔ fitsP b (ss.take i) n)) ⟨up hD, [], upd_same, by simp, by simp; intro i m e; simp at e⟩ (fun i H' _ h => ⟨SqT.of (h.1 _ _ ht1), SqT.of (h.1 _ _ (s1 _ _ h2))⟩) ?_ ?_
    · rintro i x H2 H3 hi ⟨hs, bs, hb, bl, bf⟩ ⟨T2, x1, x2, rfl, hT2, rfl, e1, e2⟩
      have len := hR.len
      obtain ⟨u, st, rfl, hst, hu⟩ := h3.get e2
      have et : ss.take (i + 1) = ss.take i ++ [st] := by
        rw [List.take_succ, hst]
        rfl
      have ez : x1 = .int (grS b (onL (ss.take i)) n) := by
        have e1 : ((trailL b ss n (ss.length + 1)).map V.int)[i]? = some x1 := e1
        rw [List.getElem?_map, trailL_at (by omega), trS_on (hR.rb.take i) n] at e1
        exact (Option.some.inj e1).symm
      subst ez
      have s2 := hs.trans (up (o := .tup [.int (grS b (onL (ss.take i)) n), .ref u]) hT2)
      have hb2 := up (o := .tup [.int (grS b (onL (ss.take i)) n), .ref u]) hT2 _ _ hb
      have hu := hu.keeps (.same (s1.trans s2))
      refine ⟨T2, _, rfl, SqT.of upd_same, rfl, _, _, rfl, _, _, rfl, rfl, rfl, ?_⟩
      generalize (upd H2 T2 (.tup [.int (grS b (onL (ss.take i)) n), .ref u])) = H4 at s2 hb2 hu ⊢
      have small : (bs.map V.bl).length < sizeLine := by
        rw [List.length_map, sizeLine_eq]
        omega
      rw [et]
      cases st with
      | push a =>
        obtain ⟨y, g1, g2⟩ := hu
        refine ⟨_, rfl, u, _, _, _, rfl, rfl, SqT.of g1, rfl, rfl, _, rfl, ifs_neg (show ("push" : Str) ≠ "bound" by decide) ?_⟩
        exact ⟨s2, bs, hb2, by omega, by rw [fits_snoc, bf]; exact ⟨fun h => ⟨h, fun m e => by cases e⟩, fun h => h.1⟩⟩
      | pop =>
        have g1 : H4 u = _ := hu
        refine ⟨_, rfl, u, _, _, _, rfl, rfl, SqT.of g1, rfl, rfl, _, rfl, ifs_neg (show ("pop" : Str) ≠ "bound" by decide) ?_⟩
        exact ⟨s2, bs, hb2, by omega, by rw [fits_snoc, bf]; exact ⟨fun h => ⟨h, fun m e => by cases e⟩, fun h => h.1⟩⟩
      | bound m =>
        have g1 : H4 u = _ := hu
        refine ⟨_, rfl, u, _, _, _, rfl, rfl, SqT.of g1, rfl, rfl, _, rfl, ifd_pos rfl ?_⟩
        refine ⟨_, rfl, _, rfl, u, _, _, _, rfl, rfl, SqT.of g1, rfl, _, _, rfl, rfl, _, hb2, small, fun y o e => ?_, bs ++ [decide (grS b (onL (ss.take i)) n ≤ m)], ?_, ?_, ?_⟩
        · rw [upd_ne (ne_of_none e hD)]
          exact s2 _ _ e
        · rw [upd_same, List.map_append]
          rfl
        · rw [List.length_append]
          simp
          omega
        · rw [fits_snoc, ← bf, List.all_append]
          simp
    · rintro H2 ⟨hs, bs, hb, bl, bf⟩
      rw [List.take_length] at bf
      exact ⟨D, bs, rfl, SqL.of hb, k _ _ bf (s1.trans hs)⟩
end
theorem cut_to {xs : List V} {i : Nat} (h : i ≤ xs.length) : cutV xs none (some (i : Int)) = xs.take i := by
  unfold cutV
  rw [HT.sIx_none, HT.sIx_nat]
  simp [Nat.min_eq_left h]
theorem cut_from {xs : List V} {i : Nat} (h : i ≤ xs.length) : cutV xs (some (i : Int)) none = xs.drop i := by
  unfold cutV
  rw [HT.sIx_none, HT.sIx_nat, Nat.min_eq_left h]
  exact List.take_of_length_le (by rw [List.length_drop]; exact Nat.le_refl _)
inductive PairsAt (H : Hp) : List V → List (Int × Int) → Prop where
  | nil : PairsAt H [] []
  | cons {p : Addr} {a : Int × Int} {xs : List V} {ws : List (Int × Int)} (h : H p = some (.tup [.int a.1, .int a.2])) (r : PairsAt H xs ws) : PairsAt H (.ref p :: xs) (a :: ws)
theorem PairsAt.len {H : Hp} {xs : List V} {ws : List (Int × Int)} (h : PairsAt H xs ws) : xs.length = ws.length := by
  induction h with
  | nil => rfl
  | cons _ _ ih => exact congrArg (· + 1) ih
theorem PairsAt.get {H : Hp} {xs : List V} {ws : List (Int × Int)} (h : PairsAt H xs ws) : ∀ {i : Nat} {x : V}, xs[i]? = some x → ∃ (p : Addr) (a : Int × Int), x = .ref p ∧ ws[i]? = some a ∧ H p = some (.tup [.int a.1, .int a.2]) := by
  induction h with
  | nil =>
    intro i x e
    simp at e
  | cons h _ ih =>
    intro i x e
    cases i with
    | zero =>
      simp at e
      exact ⟨_, _, e.symm, rfl, h⟩
    | succ i => exact ih (by simpa using e)
theorem PairsAt.same {H H' : Hp} {xs : List V} {ws : List (Int × Int)} (h : PairsAt H xs ws) (s : Same H H') : PairsAt H' xs ws := by
  induction h with
  | nil => exact .nil
  | cons h _ ih => exact .cons (s _ _ h) ih
theorem PairsAt.snoc {H : Hp} {xs : List V} {ws : List (Int × Int)} {p : Addr} {a : Int × Int} (h : PairsAt H xs ws) (hx : H p = some (.tup [.int a.1, .int a.2])) : PairsAt H (xs ++ [.ref p]) (ws ++ [a]) := by
  induction h with
  | nil => exact .cons hx .nil
  | cons h _ ih => exact .cons h ih
theorem PairsAt.put {H : Hp} {l : Addr} {xs : List V} {ys zs : List V} {ws : List (Int × Int)} (h : PairsAt H xs ws) (hl : H l = some (.lst ys)) : PairsAt (upd H l (.lst zs)) xs ws := by
  induction h with
  | nil => exact .nil
  | @cons q a xs ws h _ ih =>
    refine .cons ?_ ih
    rw [upd_ne (fun z => by rw [z, hl] at h; cases h)]
    exact h
/-- each bound's place and the greatest length that it lets through -/
noncomputable def reachAt (b : Int) (ss : List Stp) (i : Nat) : Option (Int × Int) := match ss[i]? with
  | some (.bound m) => some ((i : Nat), gwI b (onL (ss.take i)) m)
  | _ => none
noncomputable def reachL (b : Int) (ss : List Stp) (k : Nat) : List (Int × Int) := (List.range k).filterMap (reachAt b ss)
theorem reachL_succ (b : Int) (ss : List Stp) (k : Nat) : reachL b ss (k + 1) = reachL b ss k ++ (reachAt b ss k).toList := by
  unfold reachL
  rw [List.range_succ, List.filterMap_append]
  cases e : reachAt b ss k <;> simp [e]
theorem reachL_len (b : Int) (ss : List Stp) : ∀ k : Nat, (reachL b ss k).length ≤ k
  | 0 => Nat.le_refl _
  | k + 1 => by
    rw [reachL_succ, List.length_append]
    have := reachL_len b ss k
    cases reachAt b ss k <;> simp <;> omega
def leastL (ps : List (Int × Int)) : Int := (ps.map (·.2)).foldl (fun x y => if y < x then y else x) (10 ^ 60 - 1)
theorem least_fold : ∀ (ns : List Int) (x : Int), (ns.foldl (fun x y => if y < x then y else x) x ≤ x) ∧ (∀ n ∈ ns, ns.foldl (fun x y => if y < x then y else x) x ≤ n) ∧ (ns.foldl (fun x y => if y < x then y else x) x = x ∨ ns.foldl (fun x y => if y < x then y else x) x ∈ ns)
  | [], x => ⟨Int.le_refl x, fun n h => absurd h (by simp), .inl rfl⟩
  | y :: ns, x => by
    obtain ⟨h1, h2, h3⟩ := least_fold ns (if y < x then y else x)
    have e : (y :: ns).foldl (fun x y => if y < x then y else x) x = ns.foldl (fun x y => if y < x then y else x) (if y < x then y else x) := rfl
    rw [e]
    have l1 : (if y < x then y else x) ≤ x := by split <;> omega
    have l2 : (if y < x then y else x) ≤ y := by split <;> omega
    refine ⟨Int.le_trans h1 l1, fun n hn => ?_, ?_⟩
    · rcases List.mem_cons.mp hn with rfl | hn
      · exact Int.le_trans h1 l2
      · exact h2 n hn
    · rcases h3 with h3 | h3
      · rw [h3]
        by_cases z : y < x
        · rw [if_pos z]
          exact .inr (List.mem_cons_self ..)
        · rw [if_neg z]
          exact .inl rfl
      · exact .inr (List.mem_cons_of_mem _ h3)
theorem leastL_eq {ps : List (Int × Int)} {m : Int} (h1 : m ∈ (10 ^ 60 - 1) :: ps.map (·.2)) (h2 : ∀ x ∈ (10 ^ 60 - 1) :: ps.map (·.2), m ≤ x) : m = leastL ps := by
  obtain ⟨g1, g2, g3⟩ := least_fold (ps.map (·.2)) (10 ^ 60 - 1)
  have a : m ≤ leastL ps := by
    refine h2 _ ?_
    rcases g3 with g3 | g3
    · unfold leastL
      rw [g3]
      exact List.mem_cons_self ..
    · exact List.mem_cons_of_mem _ g3
  have b : leastL ps ≤ m := by
    rcases List.mem_cons.mp h1 with h | h
    · rw [h]
      exact g1
    · exact g2 _ h
  omega
def LAST : Int := 10 ^ 60 - 1
/-- what fits -/
theorem least_fits {b : Int} {ss : List Stp} (hg : ∀ i m, ss[i]? = some (.bound m) → IsG b (onL (ss.take i)) m (gwI b (onL (ss.take i)) m)) {n : Int} (n0 : 0 ≤ n) (n1 : n ≤ 10 ^ 60 - 1) : fitsP b ss n ↔ n ≤ leastL (reachL b ss ss.length) := by
  obtain ⟨g1, g2, g3⟩ := least_fold ((reachL b ss ss.length).map (·.2)) (10 ^ 60 - 1)
  have mem : ∀ x, x ∈ (reachL b ss ss.length).map (·.2) ↔ ∃ i m, ss[i]? = some (.bound m) ∧ x = gwI b (onL (ss.take i)) m := fun x => by
    unfold reachL
    rw [List.mem_map]
    constructor
    · rintro ⟨p, hp, rfl⟩
      obtain ⟨i, hi, e⟩ := List.mem_filterMap.mp hp
      unfold reachAt at e
      cases es : ss[i]? with
      | none => rw [es] at e; cases e
      | some s =>
        rw [es] at e
        cases s with
        | bound m =>
          refine ⟨i, m, es, ?_⟩
          have e := Option.some.inj e
          rw [← e]
        | push a => cases e
        | pop => cases e
    · rintro ⟨i, m, es, rfl⟩
      refine ⟨((i : Nat), gwI b (onL (ss.take i)) m), List.mem_filterMap.mpr ⟨i, List.mem_range.mpr (List.getElem?_eq_some_iff.mp es).1, ?_⟩, rfl⟩
      unfold reachAt
      rw [es]
  constructor
  · intro h
    show n ≤ leastL _
    rcases g3 with g3 | g3
    · unfold leastL
      rw [g3]
      exact n1
    · obtain ⟨i, m, es, e⟩ := (mem _).mp g3
      have := ((hg i m es).2.2 n n0).mp (h i m es)
      unfold leastL
      rw [e]
      exact this
  · intro h i m es
    have := g2 _ ((mem _).mpr ⟨i, m, es, rfl⟩)
    exact ((hg i m es).2.2 n n0).mpr (Int.le_trans h this)
theorem least_range {b : Int} {ss : List Stp} (hg : ∀ i m, ss[i]? = some (.bound m) → IsG b (onL (ss.take i)) m (gwI b (onL (ss.take i)) m)) : -1 ≤ leastL (reachL b ss ss.length) ∧ leastL (reachL b ss ss.length) ≤ 10 ^ 60 - 1 := by
  obtain ⟨g1, g2, g3⟩ := least_fold ((reachL b ss ss.length).map (·.2)) (10 ^ 60 - 1)
  refine ⟨?_, g1⟩
  rcases g3 with g3 | g3
  · unfold leastL
    rw [g3]
    decide
  · unfold leastL
    generalize ((reachL b ss ss.length).map (·.2)).foldl (fun x y => if y < x then y else x) (10 ^ 60 - 1) = z at g3 ⊢
    obtain ⟨p, hp, rfl⟩ := List.mem_map.mp g3
    obtain ⟨i, hi, e⟩ := List.mem_filterMap.mp hp
    unfold reachAt at e
    cases es : ss[i]? with
    | none => rw [es] at e; cases e
    | some s =>
      rw [es] at e
      cases s with
      | bound m =>
        have e := Option.some.inj e
        rw [← e]
        exact (hg i m es).1
      | push a => cases e
      | pop => cases e
def AllG (b : Int) (ss : List Stp) : Prop := ∀ i m, ss[i]? = some (.bound m) → IsG b (onL (ss.take i)) m (gwI b (onL (ss.take i)) m)
def spReaches (K : PySem.W.Frag) : Sp := fun vs H Q _ => ∃ (t : Addr) (xs : List V) (ss : List Stp) (b : Int), vs = [.int b, .ref t] ∧ H t = some (.tup xs) ∧ StepsAt K H xs ss ∧ RoadB b ss ∧ ss.length ≤ 1000 ∧ 2 ≤ b ∧ b ≤ 256 ∧ ∀ q ys H', H q = none → AllG b ss → Same H H' → H' q = some (.lst ys) → PairsAt H' ys (reachL b ss ss.length) → Q (.ref q) H'
def spLeast : Sp := fun vs H Q _ => ∃ (l : Addr) (ys : List V) (ps : List (Int × Int)), vs = [.ref l] ∧ H l = some (.lst ys) ∧ PairsAt H ys ps ∧ ps.length ≤ 1000 ∧ ∀ H', Same H H' → Q (.int (leastL ps)) H'
def spGreatest (K : PySem.W.Frag) : Sp := fun vs H Q _ => ∃ (r : Addr) (ss : List Stp) (b : Int), vs = [.ref r] ∧ RoadAt K H r b ss ∧ ∀ H', AllG b ss → Same H H' → Q (if leastL (reachL b ss ss.length) < 0 then .non else .int (leastL (reachL b ss ss.length))) H'
section
variable {P : Program} {w : World} {K : PySem.W.Frag} {mg : Str → Option Value} {base : Heap}
theorem ok_reaches (T : Tx w K mg) : Prom P w K mg base CX0 7 "reaches" s_reaches ["base", "steps"] (spReaches K) := by
  refine Prom.of T.d_reaches sc_reaches (fun vs H Q E h => ?_) (fun _ _ _ _ _ _ us hl => match us, hl with | [_, _], _ => rfl) (fun f cdv A outer s H vs Q E hr h => ?_)
  · obtain ⟨t, xs, ss, b, rfl, _⟩ := h
    rfl
  · obtain ⟨t, xs, ss, b, rfl, ht, hm, rb, len, b0, b1, k⟩ := h
    have hlx := hm.len
    refine ⟨_, (pss_cons (ps_set (i := 2) sc_reaches.nd rfl (Or.inl rfl) (pe_lst pa_nil))
      (pss_cons (ps_for PassesOwn.never (by rfl) (pi_enumT (by rfl) T.b_enumerate (pa_cons (pv 1) pa_nil)) (pg_tup rfl (pgs_cons (pg_name (i := 3) sc_reaches.nd rfl (Or.inl rfl)) (pgs_cons (pg_name (i := 4) sc_reaches.nd rfl (Or.inl rfl)) pgs_nil))) (pss_one (ps_if (pt_cmpR op_eq (pe_ix ix_tup (pv 4) pe_int (fun _ _ => rfl)) pe_str (nomark _)) (pss_cons (ps_set (i := 5) sc_reaches.nd rfl (Or.inl rfl) (pe_callP (ok_greatest_within T) (hr.mono (by decide)) (by rfl) pass0 (pa_cons (pe_callP (ok_stack_behind T) (hr.mono (by decide)) (by rfl) pass0 (pa_cons (pv 0) (pa_cons (pe_slice sl_tup (pv 1) po_none (po_some (pv 3))) pa_nil))) (pa_cons (pe_ix ix_tup (pv 4) pe_int (fun _ _ => rfl)) pa_nil))))
      (pss_one (ps_expr (pe_bm PySem.F.plainAttrs_list PySem.F.slot_list_append PySem.F.type_list_append mt_append (pv 2) (pa_cons (pe_tup (pa_cons (pv 3) (pa_cons (pe_ifExp (pt_cmpR op_isN (pv 5) pe_non (nomark _)) (pe_un un_neg pe_int) (pv 5)) pa_nil))) pa_nil))))) pss_nil)))
      (pss_one (ps_ret (pv 2))))), ?_⟩
    refine ⟨Nat.zero_le _, fun l hl => ?_⟩
    refine ⟨_, rfl, t, xs, rfl, SqT.of (up hl _ _ ht), for_it (walk_enumT (K := K) (a := t) (xs := xs)) (fun i σ H' => Same H H' ∧ (∀ j m, j < i → ss[j]? = some (.bound m) → IsG b (onL (ss.take j)) m (gwI b (onL (ss.take j)) m)) ∧ ∃ (ys : List V) (v1 v2 v3 : Option V), H' l = some (.lst ys) ∧ PairsAt H' ys (reachL b ss i) ∧ σ = [some (.int b), some (.ref t), some (.ref l), v1, v2, v3])
      ⟨up hl, fun j m hj => absurd hj (Nat.not_lt_zero j), [], none, none, none, upd_same, .nil, rfl⟩ (fun _ _ H' _ h => SqT.of (h.1 _ _ ht)) ?_ ?_⟩
    · rintro i x σ H1 H2 hi ⟨hs, hg, ys, v1, v2, v3, hl1, hy, rfl⟩ ⟨T2, x1, x2, rfl, hT2, rfl, e1, e2⟩
      cases e1
      obtain ⟨u, st, rfl, hst, hu⟩ := hm.get e2
      have hil : i < ss.length := (List.getElem?_eq_some_iff.mp hst).1
      have s2 := hs.trans (up (o := .tup [.int (i : Nat), .ref u]) hT2)
      have hl2 := up (o := .tup [.int (i : Nat), .ref u]) hT2 _ _ hl1
      have hy2 := hy.same (up (o := .tup [.int (i : Nat), .ref u]) hT2)
      have hu := hu.keeps (.same s2)
      refine ⟨T2, _, rfl, SqT.of upd_same, rfl, _, _, rfl, _, _, rfl, rfl, ?_⟩
      generalize (upd H1 T2 (.tup [.int (i : Nat), .ref u])) = H4 at s2 hl2 hy2 hu ⊢
      have ext : (∀ m, st = .bound m → IsG b (onL (ss.take i)) m (gwI b (onL (ss.take i)) m)) → ∀ j m, j < i + 1 → ss[j]? = some (.bound m) → IsG b (onL (ss.take j)) m (gwI b (onL (ss.take j)) m) := fun hh j m hj e => by
        by_cases z : j = i
        · subst z
          rw [hst] at e
          exact hh m (Option.some.inj e)
        · exact hg j m (by omega) e
      cases st with
      | push a =>
        obtain ⟨y, g1, g2⟩ := hu
        have er : reachL b ss (i + 1) = reachL b ss i := by
          rw [reachL_succ]
          unfold reachAt
          rw [hst]
          simp
        rw [er]
        refine ⟨_, rfl, u, _, _, _, rfl, rfl, SqT.of g1, rfl, rfl, _, rfl, ifs_neg (show ("push" : Str) ≠ "bound" by decide) ?_⟩
        exact ⟨s2, ext (fun m e => by cases e), ys, _, _, _, hl2, hy2, rfl⟩
      | pop =>
        have g1 : H4 u = _ := hu
        have er : reachL b ss (i + 1) = reachL b ss i := by
          rw [reachL_succ]
          unfold reachAt
          rw [hst]
          simp
        rw [er]
        refine ⟨_, rfl, u, _, _, _, rfl, rfl, SqT.of g1, rfl, rfl, _, rfl, ifs_neg (show ("pop" : Str) ≠ "bound" by decide) ?_⟩
        exact ⟨s2, ext (fun m e => by cases e), ys, _, _, _, hl2, hy2, rfl⟩
      | bound m =>
        have g1 : H4 u = _ := hu
        have sok : 0 ≤ m ∧ m ≤ 10 ^ 60 - 1 := rb.at_ hst
        have so := (rb.take i).stk b0 b1
        have er : reachL b ss (i + 1) = reachL b ss i ++ [(((i : Nat) : Int), gwI b (onL (ss.take i)) m)] := by
          rw [reachL_succ]
          unfold reachAt
          rw [hst]
          rfl
        have e0 : cutV xs none (some (i : Int)) = xs.take i := cut_to (by omega)
        have yl := hy.len
        have rl := reachL_len b ss i
        refine ⟨_, rfl, u, _, _, _, rfl, rfl, SqT.of g1, rfl, rfl, _, rfl, ifd_pos rfl ?_⟩
        refine ⟨_, rfl, _, rfl, _, rfl, _, rfl, t, xs, rfl, SqT.of (s2 _ _ ht), ?_, fun p1 hp1 => ?_⟩
        · rintro ⟨_, z⟩
          rw [HT.sIx_nat] at z
          omega
        rw [e0]
        have s3 := s2.trans (up (o := .tup (xs.take i)) hp1)
        refine ⟨p1, _, b, ss.take i, rfl, upd_same, (hm.keeps (.same s3)).take i, rb.take i, b0, b1, fun q H5 nq s5 st5 => ?_⟩
        have s6 := s3.trans s5
        have g5 := s5 _ _ (up hp1 _ _ g1)
        refine ⟨_, rfl, u, _, _, _, rfl, rfl, SqT.of g5, rfl, q, b, m, _, rfl, st5, so, sok.1, sok.2, fun ig => ?_⟩
        have hl5 := s5 _ _ (up hp1 _ _ hl2)
        have hy5 := (hy2.same (up (o := .tup (xs.take i)) hp1)).same s5
        have fin : ∀ t7, H5 t7 = none → Same H (upd (upd H5 t7 (.tup [.int (i : Nat), .int (gwI b (onL (ss.take i)) m)])) l (.lst (ys ++ [.ref t7]))) ∧ PairsAt (upd (upd H5 t7 (.tup [.int (i : Nat), .int (gwI b (onL (ss.take i)) m)])) l (.lst (ys ++ [.ref t7]))) (ys ++ [.ref t7]) (reachL b ss (i + 1)) := fun t7 ht7 => by
          refine ⟨fun y o e => ?_, ?_⟩
          · rw [upd_ne (ne_of_none e hl)]
            exact up ht7 _ _ (s6 _ _ e)
          · rw [er]
            exact PairsAt.put (PairsAt.snoc (a := (((i : Nat) : Int), gwI b (onL (ss.take i)) m)) (hy5.same (up ht7)) upd_same) (up ht7 _ _ hl5)
        have small : ys.length < sizeLine := by
          rw [sizeLine_eq]
          omega
        refine ⟨_, rfl, .inl ⟨rfl, _, SqL.of hl5⟩, _, rfl, ?_⟩
        unfold gwV
        by_cases z : gwI b (onL (ss.take i)) m < 0
        · rw [if_pos z]
          have e1 : gwI b (onL (ss.take i)) m = -1 := by have := ig.1; omega
          rw [e1] at fin
          refine ⟨_, rfl, rfl, _, rfl, ifd_pos rfl ⟨_, rfl, (by show 2 ≤ sizeLine; decide), fun t7 ht7 => ⟨l, _, _, rfl, rfl, up ht7 _ _ hl5, small, ?_⟩⟩⟩
          obtain ⟨f1, f2⟩ := fin t7 ht7
          exact ⟨f1, ext (fun m' e => by cases e; exact ig), _, _, _, _, upd_same, f2, rfl⟩
        · rw [if_neg z]
          refine ⟨_, rfl, rfl, _, rfl, ifd_neg (fun y => by cases y) ⟨_, rfl, (by show 2 ≤ sizeLine; decide), fun t7 ht7 => ⟨l, _, _, rfl, rfl, up ht7 _ _ hl5, small, ?_⟩⟩⟩
          obtain ⟨f1, f2⟩ := fin t7 ht7
          exact ⟨f1, ext (fun m' e => by cases e; exact ig), _, _, _, _, upd_same, f2, rfl⟩
    · rintro σ H' ⟨hs, hg, ys, v1, v2, v3, hl1, hy, rfl⟩
      rw [hlx] at hg hy
      exact ⟨_, rfl, k l ys H' hl (fun i m e => hg i m (List.getElem?_eq_some_iff.mp e).1 e) hs hl1 hy⟩
theorem ok_least_reach (T : Tx w K mg) : Prom P w K mg base CX0 1 "least_reach" s_least_reach ["pairs"] spLeast := by
  refine Prom.of T.d_least_reach sc_least_reach (fun vs H Q E h => ?_) (fun _ _ _ _ _ _ us hl => match us, hl with | [_], _ => rfl) (fun f cdv A outer s H vs Q E hr h => ?_)
  · obtain ⟨l, ys, ps, rfl, _⟩ := h
    rfl
  · obtain ⟨l, ys, ps, rfl, hl, hy, len, k⟩ := h
    have hyl := hy.len
    refine ⟨_, (pss_one (ps_ret (pe_callB (cr_min rfl) (by rfl) T.b_min (by decide +kernel) (pa_cons (pe_lst (pa_cons (pe_gint T.c_LAST_LENGTH) (StX.pa_star (pe_lc (own := [("place", 1), ("most", 2)]) (g := (gTup K 2 (gCons (gName 1) (gCons (gName 2) gNil)))) (tt := tYes) (by rfl) sc_least_reach.nd (pi_list (pv 0)) (blkOk_by (own := [("place", 1), ("most", 2)]) (N := ["pairs", "place", "most"]) (sc := defScope s_least_reach) (by decide +kernel)) (fun _ _ _ _ _ => (pg_tup rfl (pgs_cons (pg_name (i := 1) sc_least_reach.nd rfl (Or.inl rfl)) (pgs_cons (pg_name (i := 2) sc_least_reach.nd rfl (Or.inl rfl)) pgs_nil)))) (fun _ _ _ _ _ => pts_nil) (fun _ _ _ _ _ => (pv 2))) pa_nil))) pa_nil)))), ?_⟩
    refine ⟨_, rfl, l, rfl, ⟨_, SqL.of hl⟩, fun D hD => ?_⟩
    refine lc_list (K := K) (a := l) (xs := ys) (Pv := fun i H' => Same H H' ∧ H' D = some (.lst ((ps.take i).map fun z => V.int z.2))) ⟨up hD, upd_same⟩ (fun i H' _ h => SqL.of (h.1 _ _ hl)) ?_ ?_
    · rintro i x H' hi ⟨hs, hd⟩
      obtain ⟨u, a, rfl, ha, hu⟩ := hy.get hi
      have hil : i < ps.length := (List.getElem?_eq_some_iff.mp ha).1
      refine ⟨u, _, rfl, SqT.of (hs _ _ hu), rfl, _, _, rfl, _, _, rfl, rfl, rfl, _, rfl, _, hd, ?_, fun y o e => ?_, ?_⟩
      · rw [List.length_map, List.length_take, sizeLine_eq]
        omega
      · rw [upd_ne (ne_of_none e hD)]
        exact hs _ _ e
      · rw [upd_same, List.take_succ, ha, List.map_append]
        rfl
    · rintro H' ⟨hs, hd⟩
      rw [hyl, List.take_length] at hd
      refine ⟨D, _, rfl, .inr (SqL.of hd), ?_, fun l2 hl2 => ?_⟩
      · simp
        rw [sizeLine_eq]
        omega
      have el : V.int (10 ^ 60 - 1) :: (ps.map (fun z => V.int z.2) ++ []) = ((10 ^ 60 - 1) :: ps.map (·.2)).map V.int := by simp
      refine ⟨l2, (10 ^ 60 - 1) :: ps.map (·.2), rfl, SqL.of (by rw [← el]; exact upd_same), by simp, fun m hm hle => ?_⟩
      have e := leastL_eq hm hle
      rw [e]
      exact k _ (hs.trans (up hl2))
theorem ok_Road_greatest (T : Tx w K mg) : PromM P w K mg base CX0 8 "Road" "greatest" ["self"] (spGreatest K) := by
  refine PromM.of T.cl_Road T.me_Road_greatest T.dm_Road_greatest sc_Road_greatest (fun vs H Q E h => ?_) (fun _ _ _ _ _ _ us hl => match us, hl with | [_], _ => rfl) (fun f cdv A outer s H vs Q E hr h => ?_)
  · obtain ⟨r, ss, b, rfl, _⟩ := h
    rfl
  · obtain ⟨r, ss, b, rfl, hR, k⟩ := h
    obtain ⟨dx, t, q, xs, h1, h2, h3, h4⟩ := hR.at_
    have rl := reachL_len b ss ss.length
    have len := hR.len
    refine ⟨_, (pss_cons (ps_set (i := 1) sc_Road_greatest.nd rfl (Or.inl rfl) (pe_callP (ok_least_reach T) (hr.mono (by decide)) (by rfl) pass0 (pa_cons (pe_callP (ok_reaches T) (hr.mono (by decide)) (by rfl) pass0 (pa_cons (pe_fld (pv 0) rfl) (pa_cons (pe_fld (pv 0) rfl) pa_nil))) pa_nil)))
      (pss_one (ps_ret (pe_ifExp (pt_cmp (pc_lt (pv 1) pe_int)) pe_non (pv 1))))), ?_⟩
    refine ⟨_, rfl, r, _, dx, _, _, rfl, h1, T.cl_Road, T.na_Road_base, rfl, _, rfl, r, _, dx, _, _, rfl, h1, T.cl_Road, T.na_Road_steps, rfl, t, xs, ss, b, rfl, h2, h3, hR.rb, hR.len, hR.b0, hR.b1, fun l ys H1 nl ag s1 hl hy => ?_⟩
    refine ⟨l, ys, _, rfl, hl, hy, by omega, fun H2 s2 => ?_⟩
    have k2 := k H2 ag (s1.trans s2)
    refine ⟨_, rfl, _, _, rfl, rfl, _, rfl, ifd (fun c => ?_) (fun c => ?_)⟩
    · have c : leastL (reachL b ss ss.length) < 0 := c
      rw [if_pos c] at k2
      exact k2
    · have c : ¬ leastL (reachL b ss ss.length) < 0 := c
      rw [if_neg c] at k2
      exact ⟨_, rfl, k2⟩
end
theorem first_of {b m : Int} {ss : List Stp} : ∀ k : Nat, ((((reachL b ss k).filter fun z => decide (z.2 = m)).map (·.1)) = [] ∧ ∀ j y, j < k → ss[j]? = some (.bound y) → gwI b (onL (ss.take j)) y ≠ m) ∨
    ∃ (i : Nat) (rest : List Int) (x : Int), (((reachL b ss k).filter fun z => decide (z.2 = m)).map (·.1)) = (i : Int) :: rest ∧ ss[i]? = some (.bound x) ∧ gwI b (onL (ss.take i)) x = m ∧ ∀ j y, j < i → ss[j]? = some (.bound y) → gwI b (onL (ss.take j)) y ≠ m
  | 0 => .inl ⟨rfl, fun j y h => absurd h (Nat.not_lt_zero j)⟩
  | k + 1 => by
    rw [reachL_succ, List.filter_append, List.map_append]
    rcases first_of (b := b) (m := m) (ss := ss) k with ⟨h1, h2⟩ | ⟨i, rest, x, h1, h2, h3, h4⟩
    · rw [h1]
      cases es : ss[k]? with
      | none =>
        have e : reachAt b ss k = none := by unfold reachAt; rw [es]
        rw [e]
        refine .inl ⟨rfl, fun j y hj ey => ?_⟩
        by_cases z : j = k
        · rw [z, es] at ey
          cases ey
        · exact h2 j y (by omega) ey
      | some s =>
        cases s with
        | push a =>
          have e : reachAt b ss k = none := by unfold reachAt; rw [es]
          rw [e]
          refine .inl ⟨rfl, fun j y hj ey => ?_⟩
          by_cases z : j = k
          · rw [z, es] at ey
            cases ey
          · exact h2 j y (by omega) ey
        | pop =>
          have e : reachAt b ss k = none := by unfold reachAt; rw [es]
          rw [e]
          refine .inl ⟨rfl, fun j y hj ey => ?_⟩
          by_cases z : j = k
          · rw [z, es] at ey
            cases ey
          · exact h2 j y (by omega) ey
        | bound x =>
          have e : reachAt b ss k = some ((k : Int), gwI b (onL (ss.take k)) x) := by unfold reachAt; rw [es]
          rw [e]
          by_cases c : gwI b (onL (ss.take k)) x = m
          · refine .inr ⟨k, [], x, by simp [c], es, c, h2⟩
          · refine .inl ⟨by simp [c], fun j y hj ey => ?_⟩
            by_cases z : j = k
            · rw [z, es] at ey
              cases ey
              rw [z]
              exact c
            · exact h2 j y (by omega) ey
    · rw [h1]
      exact .inr ⟨i, _, x, rfl, h2, h3, h4⟩
def IsPl (b : Int) (ss : List Stp) (v : V) : Prop := (leastL (reachL b ss ss.length) = 10 ^ 60 - 1 ∧ v = .non) ∨ (leastL (reachL b ss ss.length) ≠ 10 ^ 60 - 1 ∧ ∃ (i : Nat) (x : Int), v = .int (i : Nat) ∧ ss[i]? = some (.bound x) ∧ gwI b (onL (ss.take i)) x = leastL (reachL b ss ss.length) ∧ ∀ j y, j < i → ss[j]? = some (.bound y) → gwI b (onL (ss.take j)) y ≠ leastL (reachL b ss ss.length))
theorem least_mem {b : Int} {ss : List Stp} (h : leastL (reachL b ss ss.length) ≠ 10 ^ 60 - 1) : ∃ z ∈ reachL b ss ss.length, z.2 = leastL (reachL b ss ss.length) := by
  obtain ⟨g1, g2, g3⟩ := least_fold ((reachL b ss ss.length).map (·.2)) (10 ^ 60 - 1)
  rcases g3 with g3 | g3
  · exact absurd g3 h
  · obtain ⟨z, hz, e⟩ := List.mem_map.mp g3
    exact ⟨z, hz, e⟩
def spStopper (K : PySem.W.Frag) : Sp := fun vs H Q _ => ∃ (r : Addr) (ss : List Stp) (b : Int), vs = [.ref r] ∧ RoadAt K H r b ss ∧ ∀ v H', AllG b ss → IsPl b ss v → Same H H' → Q v H'
section
variable {P : Program} {w : World} {K : PySem.W.Frag} {mg : Str → Option Value} {base : Heap}
theorem ok_Road_stopper (T : Tx w K mg) : PromM P w K mg base CX0 8 "Road" "stopper" ["self"] (spStopper K) := by
  refine PromM.of T.cl_Road T.me_Road_stopper T.dm_Road_stopper sc_Road_stopper (fun vs H Q E h => ?_) (fun _ _ _ _ _ _ us hl => match us, hl with | [_], _ => rfl) (fun f cdv A outer s H vs Q E hr h => ?_)
  · obtain ⟨r, ss, b, rfl, _⟩ := h
    rfl
  · obtain ⟨r, ss, b, rfl, hR, k⟩ := h
    obtain ⟨dx, t, q, xs, h1, h2, h3, h4⟩ := hR.at_
    have rl := reachL_len b ss ss.length
    have len := hR.len
    refine ⟨_, (pss_cons (ps_set (i := 1) sc_Road_stopper.nd rfl (Or.inl rfl) (pe_callP (ok_reaches T) (hr.mono (by decide)) (by rfl) pass0 (pa_cons (pe_fld (pv 0) rfl) (pa_cons (pe_fld (pv 0) rfl) pa_nil))))
      (pss_cons (ps_set (i := 2) sc_Road_stopper.nd rfl (Or.inr rfl) (pe_callP (ok_least_reach T) (hr.mono (by decide)) (by rfl) pass0 (pa_cons (pv 1) pa_nil)))
      (pss_cons (ps_if (pt_cmp (pc_eqI (pv 2) (pe_gint T.c_LAST_LENGTH))) (pss_one (ps_ret pe_non)) pss_nil)
      (pss_one (ps_ret (pe_ix ix_list (pe_lc (own := [("place", 3), ("most", 4)]) (g := (gTup K 2 (gCons (gName 3) (gCons (gName 4) gNil)))) (by rfl) sc_Road_stopper.nd (pi_list (pv 1)) (blkOk_by (own := [("place", 3), ("most", 4)]) (N := ["self", "pairs", "least", "place", "most"]) (sc := defScope s_Road_stopper) (by decide +kernel)) (fun _ _ _ _ _ => (pg_tup rfl (pgs_cons (pg_name (i := 3) sc_Road_stopper.nd rfl (Or.inl rfl)) (pgs_cons (pg_name (i := 4) sc_Road_stopper.nd rfl (Or.inl rfl)) pgs_nil)))) (fun _ _ _ _ _ => pts_one (pt_cmp (pc_eqI (pv 4) (pv 2)))) (fun _ _ _ _ _ => (pv 3))) pe_int (fun _ _ => rfl))))))), ?_⟩
    refine ⟨_, rfl, r, _, dx, _, _, rfl, h1, T.cl_Road, T.na_Road_base, rfl, _, rfl, r, _, dx, _, _, rfl, h1, T.cl_Road, T.na_Road_steps, rfl, t, xs, ss, b, rfl, h2, h3, hR.rb, hR.len, hR.b0, hR.b1, fun l ys H1 nl ag s1 hl hy => ?_⟩
    refine ⟨_, rfl, l, ys, _, rfl, hl, hy, by omega, fun H2 s2 => ?_⟩
    have hl2 := s2 _ _ hl
    have hy2 := hy.same s2
    have s2 := s1.trans s2
    have lm := least_mem (b := b) (ss := ss)
    have fo := first_of (b := b) (m := leastL (reachL b ss ss.length)) (ss := ss) ss.length
    have k := fun v H' h s => k v H' ag h s
    unfold IsPl at k
    generalize leastL (reachL b ss ss.length) = m at lm fo k ⊢
    generalize reachL b ss ss.length = ps at rl lm fo hy2 ⊢
    have hyl := hy2.len
    refine ⟨_, rfl, _, _, rfl, rfl, _, rfl, ifd (fun c => ?_) (fun c => ?_)⟩
    · exact k _ _ (.inl ⟨c, rfl⟩) s2
    · have c : ¬ m = 10 ^ 60 - 1 := c
      refine ⟨_, rfl, l, rfl, ⟨_, SqL.of hl2⟩, fun D hD => ?_⟩
      refine lc_list (K := K) (a := l) (xs := ys) (Pv := fun i H' => Same H2 H' ∧ H' D = some (.lst ((((ps.take i).filter fun z => decide (z.2 = m)).map (·.1)).map V.int))) ⟨up hD, upd_same⟩ (fun i H' _ h => SqL.of (h.1 _ _ hl2)) ?_ ?_
      · rintro i x H' hi ⟨hs, hd⟩
        obtain ⟨u, a, rfl, ha, hu⟩ := hy2.get hi
        have hil : i < ps.length := (List.getElem?_eq_some_iff.mp ha).1
        have et : ps.take (i + 1) = ps.take i ++ [a] := by
          rw [List.take_succ, ha]
          rfl
        refine ⟨u, _, rfl, SqT.of (hs _ _ hu), rfl, _, _, rfl, _, _, rfl, rfl, rfl, _, rfl, _, rfl, _, _, rfl, rfl, _, rfl, ifd (fun z => ?_) (fun z => ?_)⟩
        · have z : a.2 = m := z
          refine ⟨_, rfl, _, hd, ?_, fun y o e => ?_, ?_⟩
          · rw [List.length_map, List.length_map, sizeLine_eq]
            have h1 := List.length_filter_le (fun z : Int × Int => decide (z.2 = m)) (ps.take i)
            have h2 := List.length_take_le' i ps
            omega
          · rw [upd_ne (ne_of_none e hD)]
            exact hs _ _ e
          · rw [upd_same, et, List.filter_append, List.map_append, List.map_append]
            simp [z]
        · have z : ¬ a.2 = m := z
          refine ⟨hs, ?_⟩
          rw [hd, et, List.filter_append]
          simp [z]
      · rintro H' ⟨hs, hd⟩
        rw [hyl, List.take_length] at hd
        rcases fo with ⟨f1, f2⟩ | ⟨i, rest, x, f1, f2, f3, f4⟩
        · exfalso
          obtain ⟨z, hz, ez⟩ := lm c
          have : z.1 ∈ ((ps.filter fun z => decide (z.2 = m)).map (·.1)) := List.mem_map.mpr ⟨z, List.mem_filter.mpr ⟨hz, by simp [ez]⟩, rfl⟩
          rw [f1] at this
          cases this
        · rw [f1] at hd
          exact ⟨D, _, _, _, rfl, rfl, SqL.of hd, atI_nat (j := 0) rfl, k _ _ (.inr ⟨c, i, x, rfl, f2, f3, f4⟩) (s2.trans hs)⟩
end
theorem RoadB.of {b : Int} {ss : List Stp} (h : ∀ i s, ss[i]? = some s → stepOk b (onL (ss.take i)) s) : RoadB b ss := by
  have key : ∀ k : Nat, k ≤ ss.length → RoadB b (ss.take k) := fun k => by
    induction k with
    | zero => intro _; exact .nil
    | succ k ih =>
      intro hk
      obtain ⟨s, hs⟩ : ∃ s, ss[k]? = some s := ⟨_, List.getElem?_eq_getElem (by omega)⟩
      have e : ss.take (k + 1) = ss.take k ++ [s] := by
        rw [List.take_succ, hs]
        rfl
      rw [e]
      exact .snoc (ih (by omega)) (h k s hs)
  have := key ss.length (Nat.le_refl _)
  rw [List.take_length] at this
  exact this
theorem onL_mid (ss us : List Stp) (n : Int) : onL (ss ++ .bound n :: us) = onL (ss ++ us) := by
  unfold onL
  rw [List.foldl_append, List.foldl_append]
  rfl
/-- a bound put in -/
theorem RoadB.put {b n : Int} {ss us : List Stp} (h : RoadB b (ss ++ us)) (h0 : 0 ≤ n) (h1 : n ≤ 10 ^ 60 - 1) : RoadB b (ss ++ .bound n :: us) := by
  refine RoadB.of fun i s e => ?_
  by_cases z : i < ss.length
  · rw [List.getElem?_append_left z] at e
    have := h.at_ (i := i) (s := s) (by rw [List.getElem?_append_left z]; exact e)
    rw [List.take_append_of_le_length (by omega)] at this ⊢
    exact this
  · rw [List.getElem?_append_right (by omega)] at e
    have et : (ss ++ Stp.bound n :: us).take i = ss ++ (Stp.bound n :: us).take (i - ss.length) := by
      rw [List.take_append, List.take_of_length_le (by omega)]
    rw [et]
    cases hj : i - ss.length with
    | zero =>
      rw [hj] at e
      have : s = .bound n := by simpa using e.symm
      rw [this]
      exact ⟨h0, h1⟩
    | succ j =>
      rw [hj] at e
      have e : us[j]? = some s := by simpa using e
      rw [List.take_succ_cons, onL_mid]
      have := h.at_ (i := ss.length + j) (s := s) (by rw [List.getElem?_append_right (by omega)]; simpa using e)
      rw [List.take_append, List.take_of_length_le (by omega)] at this
      simpa using this
/-- a bound left out -/
theorem RoadB.cut {b n : Int} {ss us : List Stp} (h : RoadB b (ss ++ .bound n :: us)) : RoadB b (ss ++ us) := by
  refine RoadB.of fun i s e => ?_
  by_cases z : i < ss.length
  · rw [List.getElem?_append_left z] at e
    have := h.at_ (i := i) (s := s) (by rw [List.getElem?_append_left z]; exact e)
    rw [List.take_append_of_le_length (by omega)] at this ⊢
    exact this
  · rw [List.getElem?_append_right (by omega)] at e
    have := h.at_ (i := i + 1) (s := s) (by
      rw [List.getElem?_append_right (by omega)]
      have e2 : i + 1 - ss.length = (i - ss.length) + 1 := by omega
      rw [e2]
      simpa using e)
    have et : (ss ++ Stp.bound n :: us).take (i + 1) = ss ++ Stp.bound n :: us.take (i - ss.length) := by
      rw [List.take_append, List.take_of_length_le (by omega)]
      have e2 : i + 1 - ss.length = (i - ss.length) + 1 := by omega
      rw [e2, List.take_succ_cons]
    rw [et, onL_mid] at this
    rw [List.take_append, List.take_of_length_le (by omega)]
    exact this
/-- the places of bounds -/
def isBd (ss : List Stp) (i : Nat) : Bool := match ss[i]? with
  | some (.bound _) => true
  | _ => false
def whichL (ss : List Stp) (k : Nat) : List Int := ((List.range k).filter (isBd ss)).map fun (i : Nat) => (i : Int)
theorem whichL_succ (ss : List Stp) (k : Nat) : whichL ss (k + 1) = whichL ss k ++ (if isBd ss k = true then [(k : Int)] else []) := by
  unfold whichL
  rw [List.range_succ, List.filter_append, List.map_append]
  congr 1
  by_cases c : isBd ss k = true <;> simp [c]
theorem whichL_mem {ss : List Stp} {k : Nat} {x : Int} (h : x ∈ whichL ss k) : ∃ (i : Nat) (n : Int), x = (i : Nat) ∧ i < k ∧ ss[i]? = some (.bound n) := by
  unfold whichL at h
  obtain ⟨i, hi, rfl⟩ := List.mem_map.mp h
  obtain ⟨h1, h2⟩ := List.mem_filter.mp hi
  unfold isBd at h2
  cases e : ss[i]? with
  | none =>
    rw [e] at h2
    cases h2
  | some s =>
    rw [e] at h2
    cases s with
    | bound n => exact ⟨i, n, rfl, List.mem_range.mp h1, e⟩
    | push a => cases h2
    | pop => cases h2
theorem whichL_len (ss : List Stp) : ∀ k : Nat, (whichL ss k).length ≤ k
  | 0 => Nat.le_refl _
  | k + 1 => by
    rw [whichL_succ, List.length_append]
    have := whichL_len ss k
    split <;> simp <;> omega
theorem cut_mid {xs : List V} {i j : Nat} (hj : j ≤ xs.length) : cutV xs (some (i : Int)) (some (j : Int)) = (xs.drop i).take (j - i) := by
  unfold cutV
  rw [HT.sIx_nat, HT.sIx_nat, Nat.min_eq_left hj]
  by_cases z : i ≤ xs.length
  · rw [Nat.min_eq_left z]
  · rw [Nat.min_eq_right (by omega)]
    have e1 : xs.drop xs.length = [] := List.drop_length
    have e2 : xs.drop i = [] := List.drop_eq_nil_of_le (by omega)
    rw [e1, e2]
    simp
theorem MovesAt.drop {H : Hp} {xs : List V} {ss : List Stp} (h : MovesAt H xs ss) : ∀ i : Nat, MovesAt H (xs.drop i) (ss.drop i) := by
  induction h with
  | nil => intro i; simp; exact .nil
  | cons h r ih =>
    intro i
    cases i with
    | zero => exact .cons h r
    | succ i => exact ih i
theorem MovesAt.app {H : Hp} {xs ys : List V} {ss us : List Stp} (h : MovesAt H xs ss) (h2 : MovesAt H ys us) : MovesAt H (xs ++ ys) (ss ++ us) := by
  induction h with
  | nil => exact h2
  | cons h _ ih => exact .cons h ih
theorem MovesAt.eq {H : Hp} {xs ys : List V} {ss us : List Stp} (h : MovesAt H xs ss) (e : xs = ys) (e2 : ss = us) : MovesAt H ys us := by
  rw [← e, ← e2]
  exact h
theorem split_at {α : Type} {ws : List α} {i : Nat} {a : α} (h : ws[i]? = some a) : ws = ws.take i ++ a :: ws.drop (i + 1) := by
  rw [← drop_at h, List.take_append_drop]
theorem int_at {ns : List Int} {i : Nat} {x : V} (h : (ns.map V.int)[i]? = some x) : ∃ n, ns[i]? = some n ∧ x = .int n := by
  rw [List.getElem?_map] at h
  cases e : ns[i]? with
  | none =>
    rw [e] at h
    cases h
  | some n =>
    rw [e] at h
    exact ⟨n, rfl, (Option.some.inj h).symm⟩
theorem which_reach (b : Int) (ss : List Stp) : ∀ k : Nat, (reachL b ss k).map (·.1) = whichL ss k
  | 0 => rfl
  | k + 1 => by
    rw [reachL_succ, whichL_succ, List.map_append, which_reach b ss k]
    congr 1
    unfold reachAt isBd
    cases ss[k]? with
    | none => simp
    | some s => cases s <;> simp
theorem reach_mem {b : Int} {ss : List Stp} {k : Nat} {z : Int × Int} (h : z ∈ reachL b ss k) : ∃ (i : Nat) (m : Int), i < k ∧ ss[i]? = some (.bound m) ∧ z = ((i : Int), gwI b (onL (ss.take i)) m) := by
  unfold reachL at h
  obtain ⟨i, hi, e⟩ := List.mem_filterMap.mp h
  unfold reachAt at e
  cases es : ss[i]? with
  | none => rw [es] at e; cases e
  | some s =>
    rw [es] at e
    cases s with
    | bound m => exact ⟨i, m, List.mem_range.mp hi, es, (Option.some.inj e).symm⟩
    | push a => cases e
    | pop => cases e
theorem mem_reach {b : Int} {ss : List Stp} {i : Nat} {m : Int} (es : ss[i]? = some (.bound m)) : ((i : Int), gwI b (onL (ss.take i)) m) ∈ reachL b ss ss.length := by
  unfold reachL
  refine List.mem_filterMap.mpr ⟨i, List.mem_range.mpr (List.getElem?_eq_some_iff.mp es).1, ?_⟩
  unfold reachAt
  rw [es]
/-- the others -/
def othL (ps : List (Int × Int)) (i : Int) : List (Int × Int) := ps.filter fun z => !decide (z.1 = i)
noncomputable def idleL (b : Int) (ss : List Stp) : List Int := (whichL ss ss.length).filter fun i => decide (leastL (othL (reachL b ss ss.length) i) = leastL (reachL b ss ss.length))
theorem least_sub {ps qs : List (Int × Int)} (h : ∀ z ∈ qs, z ∈ ps) : leastL ps ≤ leastL qs := by
  obtain ⟨g1, g2, g3⟩ := least_fold (ps.map (·.2)) (10 ^ 60 - 1)
  obtain ⟨f1, f2, f3⟩ := least_fold (qs.map (·.2)) (10 ^ 60 - 1)
  rcases f3 with f3 | f3
  · show _ ≤ leastL qs
    unfold leastL
    rw [f3]
    exact g1
  · obtain ⟨z, hz, e⟩ := List.mem_map.mp f3
    have := g2 z.2 (List.mem_map.mpr ⟨z, h z hz, rfl⟩)
    show leastL ps ≤ leastL qs
    unfold leastL
    rw [← e]
    exact this
theorem least_top (ps : List (Int × Int)) : leastL ps ≤ 10 ^ 60 - 1 := (least_fold (ps.map (·.2)) (10 ^ 60 - 1)).1
theorem least_of {ps : List (Int × Int)} {z : Int × Int} (h : z ∈ ps) : leastL ps ≤ z.2 := (least_fold (ps.map (·.2)) (10 ^ 60 - 1)).2.1 z.2 (List.mem_map.mpr ⟨z, h, rfl⟩)
/-- without the bound at i -/
def dropB (ss : List Stp) (i : Nat) : List Stp := ss.take i ++ ss.drop (i + 1)
theorem fits_drop {b n : Int} {ss : List Stp} {i : Nat} {m : Int} (es : ss[i]? = some (.bound m)) : fitsP b (dropB ss i) n ↔ ∀ j y, j ≠ i → ss[j]? = some (.bound y) → grS b (onL (ss.take j)) n ≤ y := by
  have hi : i < ss.length := (List.getElem?_eq_some_iff.mp es).1
  have lt : (ss.take i).length = i := by rw [List.length_take]; omega
  have e0 := split_at es
  constructor
  · intro h j y hj ey
    by_cases z : j < i
    · have := h j y (by unfold dropB; rw [List.getElem?_append_left (by omega), List.getElem?_take, if_pos z]; exact ey)
      unfold dropB at this
      rw [List.take_append_of_le_length (by omega), List.take_take, Nat.min_eq_left (by omega)] at this
      exact this
    · have zj : j = (j - 1) + 1 := by omega
      have := h (j - 1) y (by
        unfold dropB
        rw [List.getElem?_append_right (by omega), lt, List.getElem?_drop]
        have : i + 1 + (j - 1 - i) = j := by omega
        rw [this]
        exact ey)
      unfold dropB at this
      rw [List.take_append, List.take_of_length_le (by omega), lt, ← onL_mid (ss.take i) _ m] at this
      have e : ss.take j = ss.take i ++ .bound m :: (ss.drop (i + 1)).take (j - 1 - i) := by
        conv => lhs; rw [e0]
        rw [List.take_append, List.take_of_length_le (by omega), lt]
        have : j - i = (j - 1 - i) + 1 := by omega
        rw [this, List.take_succ_cons]
      rw [e]
      exact this
  · intro h j y ey
    unfold dropB at ey ⊢
    by_cases z : j < i
    · rw [List.getElem?_append_left (by omega), List.getElem?_take, if_pos z] at ey
      rw [List.take_append_of_le_length (by omega), List.take_take, Nat.min_eq_left (by omega)]
      exact h j y (by omega) ey
    · rw [List.getElem?_append_right (by omega), lt, List.getElem?_drop] at ey
      have ej : i + 1 + (j - i) = j + 1 := by omega
      rw [ej] at ey
      have := h (j + 1) y (by omega) ey
      rw [List.take_append, List.take_of_length_le (by omega), lt, ← onL_mid (ss.take i) _ m]
      have e : ss.take (j + 1) = ss.take i ++ .bound m :: (ss.drop (i + 1)).take (j - i) := by
        conv => lhs; rw [e0]
        rw [List.take_append, List.take_of_length_le (by omega), lt]
        have : j + 1 - i = (j - i) + 1 := by omega
        rw [this, List.take_succ_cons]
      rw [← e]
      exact this
theorem idle_iff {b : Int} {ss : List Stp} (ag : AllG b ss) {i : Nat} {m : Int} (es : ss[i]? = some (.bound m)) (hl : leastL (reachL b ss ss.length) ≠ 10 ^ 60 - 1) :
    leastL (othL (reachL b ss ss.length) (i : Int)) = leastL (reachL b ss ss.length) ↔ ¬ fitsP b (dropB ss i) (leastL (reachL b ss ss.length) + 1) := by
  have rg := least_range ag
  have sub : leastL (reachL b ss ss.length) ≤ leastL (othL (reachL b ss ss.length) (i : Int)) := least_sub fun z hz => (List.mem_filter.mp hz).1
  rw [fits_drop es]
  constructor
  · intro e h
    obtain ⟨g1, g2, g3⟩ := least_fold ((othL (reachL b ss ss.length) (i : Int)).map (·.2)) (10 ^ 60 - 1)
    rcases g3 with g3 | g3
    · apply hl
      rw [← e]
      exact g3
    · obtain ⟨z, hz, ez⟩ := List.mem_map.mp g3
      have ez : z.2 = leastL (othL (reachL b ss ss.length) (i : Int)) := ez
      obtain ⟨h1, h2⟩ := List.mem_filter.mp hz
      obtain ⟨j, y, hj, ey, rfl⟩ := reach_mem h1
      have nj : j ≠ i := fun q => by simp [q] at h2
      have h3 := ((ag j y ey).2.2 _ (by omega)).mp (h j y nj ey)
      have h4 : gwI b (onL (ss.take j)) y = leastL (othL (reachL b ss ss.length) (i : Int)) := ez
      omega
  · intro h
    refine Classical.byContradiction fun ne => h fun j y nj ey => ?_
    have z1 : ((j : Int), gwI b (onL (ss.take j)) y) ∈ othL (reachL b ss ss.length) (i : Int) := List.mem_filter.mpr ⟨mem_reach ey, by
      have : ¬ (j : Int) = (i : Int) := by omega
      simp [this]⟩
    have z2 : leastL (othL (reachL b ss ss.length) (i : Int)) ≤ gwI b (onL (ss.take j)) y := least_of z1
    exact ((ag j y ey).2.2 _ (by omega)).mpr (by omega)
theorem idle_top {b : Int} {ss : List Stp} (hl : leastL (reachL b ss ss.length) = 10 ^ 60 - 1) : idleL b ss = whichL ss ss.length := by
  unfold idleL
  refine List.filter_eq_self.mpr fun i _ => ?_
  have h1 : leastL (reachL b ss ss.length) ≤ leastL (othL (reachL b ss ss.length) i) := least_sub fun z hz => (List.mem_filter.mp hz).1
  have h2 := least_top (othL (reachL b ss ss.length) i)
  rw [decide_eq_true_iff]
  omega
/-- an idle bound left out: what fits stays -/
theorem idle_same {b : Int} {ss : List Stp} (ag : AllG b ss) {i : Nat} {m : Int} (es : ss[i]? = some (.bound m)) (ag2 : AllG b (dropB ss i)) (hi : leastL (othL (reachL b ss ss.length) (i : Int)) = leastL (reachL b ss ss.length)) :
    leastL (reachL b (dropB ss i) (dropB ss i).length) = leastL (reachL b ss ss.length) := by
  have r1 := least_range ag
  have r2 := least_range ag2
  have key : ∀ n, 0 ≤ n → n ≤ 10 ^ 60 - 1 → (fitsP b (dropB ss i) n ↔ fitsP b ss n) := fun n n0 n1 => by
    rw [fits_drop es]
    constructor
    · intro h
      rw [least_fits ag n0 n1]
      refine Classical.byContradiction fun c => ?_
      by_cases hl : leastL (reachL b ss ss.length) = 10 ^ 60 - 1
      · omega
      · refine (idle_iff ag es hl).mp hi ?_
        rw [fits_drop es]
        intro j y nj ey
        have h1 := ((ag j y ey).2.2 n n0).mp (h j y nj ey)
        exact ((ag j y ey).2.2 _ (by omega)).mpr (by omega)
    · intro h j y _ ey
      exact h j y ey
  have k2 : ∀ n, 0 ≤ n → n ≤ 10 ^ 60 - 1 → (n ≤ leastL (reachL b (dropB ss i) (dropB ss i).length) ↔ n ≤ leastL (reachL b ss ss.length)) := fun n n0 n1 => by
    rw [← least_fits ag2 n0 n1, ← least_fits ag n0 n1]
    exact key n n0 n1
  generalize leastL (reachL b ss ss.length) = x at r1 k2
  generalize leastL (reachL b (dropB ss i) (dropB ss i).length) = y at r2 k2
  by_cases z : y < x
  · have := (k2 x (by omega) r1.2).mpr (Int.le_refl x)
    omega
  · by_cases z2 : x < y
    · have := (k2 y (by omega) r2.2).mp (Int.le_refl y)
      omega
    · omega
def spIdle (K : PySem.W.Frag) : Sp := fun vs H Q _ => ∃ (r : Addr) (ss : List Stp) (b : Int), vs = [.ref r] ∧ RoadAt K H r b ss ∧ ∀ q H', H q = none → AllG b ss → Same H H' → H' q = some (.tup ((idleL b ss).map V.int)) → Q (.ref q) H'
section
variable {P : Program} {w : World} {K : PySem.W.Frag} {mg : Str → Option Value} {base : Heap}
theorem ok_Road_idle (T : Tx w K mg) : PromM P w K mg base CX0 8 "Road" "idle" ["self"] (spIdle K) := by
  refine PromM.of T.cl_Road T.me_Road_idle T.dm_Road_idle sc_Road_idle (fun vs H Q E h => ?_) (fun _ _ _ _ _ _ us hl => match us, hl with | [_], _ => rfl) (fun f cdv A outer s H vs Q E hr h => ?_)
  · obtain ⟨r, ss, b, rfl, _⟩ := h
    rfl
  · obtain ⟨r, ss, b, rfl, hR, k⟩ := h
    obtain ⟨dx, t, q, xs, h1, h2, h3, h4⟩ := hR.at_
    have rl := reachL_len b ss ss.length
    have len := hR.len
    refine ⟨_, (pss_cons (ps_set (i := 1) sc_Road_idle.nd rfl (Or.inl rfl) (pe_callP (ok_reaches T) (hr.mono (by decide)) (by rfl) pass0 (pa_cons (pe_fld (pv 0) rfl) (pa_cons (pe_fld (pv 0) rfl) pa_nil))))
      (pss_cons (ps_par (i := 2) (j := 3) (by rfl) sc_Road_idle.nd rfl rfl (by decide) rfl rfl (pa_cons (pe_callP (ok_least_reach T) (hr.mono (by decide)) (by rfl) pass0 (pa_cons (pv 1) pa_nil)) (pa_cons (pe_lst pa_nil) pa_nil)) (by rfl))
      (pss_cons (ps_for PassesOwn.never (by rfl) (pi_list (pv 1)) (pg_tup rfl (pgs_cons (pg_name (i := 4) sc_Road_idle.nd rfl (Or.inr rfl)) (pgs_cons (pg_name (i := 5) sc_Road_idle.nd rfl (Or.inl rfl)) pgs_nil))) (pss_one (ps_if (pt_cmp (pc_eqI (pe_callP (ok_least_reach T) (hr.mono (by decide)) (by rfl) pass0 (pa_cons (pe_lc (own := [("pair", 6)]) (g := (gName 6)) (by rfl) sc_Road_idle.nd (pi_list (pv 1)) (blkOk_by (own := [("pair", 6)]) (N := ["self", "pairs", "least", "found", "place", "most", "pair"]) (sc := defScope s_Road_idle) (by decide +kernel)) (fun _ _ _ _ _ => (pg_name (i := 6) sc_Road_idle.nd rfl (Or.inl rfl))) (fun _ _ _ _ _ => pts_one (pt_cmp (pc_neI (pe_ix (show IxR _ (rIxT K) from ix_tup) (pv 6) pe_int (fun _ _ => rfl)) (pv 4)))) (fun _ _ _ _ _ => (pv 6))) pa_nil)) (pv 2))) (pss_one (ps_expr (pe_bm PySem.F.plainAttrs_list PySem.F.slot_list_append PySem.F.type_list_append mt_append (pv 3) (pa_cons (pv 4) pa_nil)))) pss_nil)))
      (pss_one (ps_ret (pe_callTy call_tuple_of (by rfl) T.b_tuple (by decide +kernel) (pa_cons (pv 3) pa_nil))))))), ?_⟩
    refine ⟨_, rfl, r, _, dx, _, _, rfl, h1, T.cl_Road, T.na_Road_base, rfl, _, rfl, r, _, dx, _, _, rfl, h1, T.cl_Road, T.na_Road_steps, rfl, t, xs, ss, b, rfl, h2, h3, hR.rb, hR.len, hR.b0, hR.b1, fun l ys H1 nl ag s1 hl hy => ?_⟩
    refine ⟨_, rfl, l, ys, _, rfl, hl, hy, by omega, fun H2 s2 => ⟨Nat.zero_le _, fun lf hlf => ⟨_, _, rfl, ?_⟩⟩⟩
    have s3 := s2.trans (up (o := .lst []) hlf)
    have hl3 := s3 _ _ hl
    have hy3 := hy.same s3
    have nlf : H lf = none := same_before (s1.trans s2) hlf
    have hf3 : (upd H2 lf (.lst [])) lf = some (.lst []) := upd_same
    have e3 : Same H (upd H2 lf (.lst [])) := s1.trans s3
    have nll : l ≠ lf := ne_of_none (s2 _ _ hl) hlf
    generalize (upd H2 lf (.lst [])) = H3 at s3 hl3 hy3 hf3 e3 ⊢
    have ei : idleL b ss = (((reachL b ss ss.length).filter fun a => decide (leastL (othL (reachL b ss ss.length) a.1) = leastL (reachL b ss ss.length))).map (·.1)) := by
      unfold idleL
      rw [← which_reach b ss ss.length, List.filter_map]
      rfl
    have k := fun q H' h s e => k q H' h ag s e
    rw [ei] at k
    generalize leastL (reachL b ss ss.length) = m at k ⊢
    generalize reachL b ss ss.length = ps at rl hy3 k ⊢
    have hyl := hy3.len
    refine ⟨_, rfl, l, rfl, ⟨_, SqL.of hl3⟩, for_list (K := K) (a := l) (xs := ys) (fun i σ H' => Same H H' ∧ H' l = some (.lst ys) ∧ PairsAt H' ys ps ∧ H' lf = some (.lst ((((ps.take i).filter fun a => decide (leastL (othL ps a.1) = m)).map (·.1)).map V.int)) ∧ ∃ v1 v2, σ = [some (.ref r), some (.ref l), some (.int m), some (.ref lf), v1, v2, none])
      ⟨e3, hl3, hy3, hf3, none, none, rfl⟩ (fun i σ H' _ h => SqL.of h.2.1) ?_ ?_⟩
    · rintro i x σ H' hi ⟨hs, hl', hy', hf', v1, v2, rfl⟩
      obtain ⟨u, a, rfl, ha, hu⟩ := hy'.get hi
      have hil : i < ps.length := (List.getElem?_eq_some_iff.mp ha).1
      have et : ps.take (i + 1) = ps.take i ++ [a] := by
        rw [List.take_succ, ha]
        rfl
      refine ⟨u, _, rfl, SqT.of hu, rfl, _, _, rfl, _, _, rfl, rfl, ?_⟩
      refine ⟨_, rfl, l, rfl, ⟨_, SqL.of hl'⟩, fun D hD => ?_⟩
      have eo : ∀ j, (ps.take j).filter (fun z => !decide (z.1 = a.1)) = othL (ps.take j) a.1 := fun j => rfl
      refine lc_list (K := K) (a := l) (xs := ys) (Pv := fun j H2 => Same H' H2 ∧ ∃ zs, H2 D = some (.lst zs) ∧ PairsAt H2 zs (othL (ps.take j) a.1) ∧ zs.length ≤ j) ⟨up hD, [], upd_same, .nil, Nat.le_refl _⟩ (fun j H2 _ h => SqL.of (h.1 _ _ hl')) ?_ ?_
      · rintro j x H2 hj ⟨hs2, zs, hd, hz, zl⟩
        obtain ⟨u2, a2, rfl, ha2, hu2⟩ := (hy'.same hs2).get hj
        have hjl : j < ps.length := (List.getElem?_eq_some_iff.mp ha2).1
        have et2 : othL (ps.take (j + 1)) a.1 = othL (ps.take j) a.1 ++ othL [a2] a.1 := by
          unfold othL
          rw [List.take_succ, ha2, List.filter_append]
          rfl
        refine ⟨rfl, _, rfl, u2, _, _, _, rfl, rfl, SqT.of hu2, rfl, _, rfl, _, _, rfl, rfl, _, rfl, ifn (fun c => ?_) (fun c => ?_)⟩
        · have c : ¬ a2.1 = a.1 := c
          refine ⟨_, rfl, zs, hd, ?_, fun y o e => ?_, zs ++ [.ref u2], upd_same, ?_, ?_⟩
          · rw [sizeLine_eq]
            omega
          · rw [upd_ne (ne_of_none e hD)]
            exact hs2 _ _ e
          · rw [et2]
            have e1 : othL [a2] a.1 = [a2] := by
              unfold othL
              simp [c]
            rw [e1]
            exact (hz.snoc hu2).put hd
          · rw [List.length_append, List.length_singleton]
            omega
        · have c : a2.1 = a.1 := c
          refine ⟨hs2, zs, hd, ?_, by omega⟩
          rw [et2]
          have e1 : othL [a2] a.1 = [] := by
            unfold othL
            simp [c]
          rw [e1, List.append_nil]
          exact hz
      · rintro H2 ⟨hs2, zs, hd, hz, zl⟩
        rw [hyl, List.take_length] at hz
        have ol : (othL ps a.1).length ≤ 1000 := by
          unfold othL
          have := List.length_filter_le (fun z : Int × Int => !decide (z.1 = a.1)) ps
          omega
        refine ⟨D, zs, _, rfl, hd, hz, ol, fun H4 s4 => ⟨_, rfl, _, _, rfl, rfl, _, rfl, ?_⟩⟩
        have s5 := hs2.trans s4
        have hf5 := s5 _ _ hf'
        refine ifd (fun c => ?_) (fun c => ?_)
        · have c : leastL (othL ps a.1) = m := c
          refine ⟨_, rfl, .inl ⟨rfl, _, SqL.of hf5⟩, _, rfl, lf, _, _, rfl, rfl, hf5, ?_, fun y o e => ?_, ?_, ?_, ?_, _, _, rfl⟩
          · rw [List.length_map, List.length_map, sizeLine_eq]
            have h1 := List.length_filter_le (fun a : Int × Int => decide (leastL (othL ps a.1) = m)) (ps.take i)
            have h2 := List.length_take_le' i ps
            omega
          · rw [upd_ne (ne_of_none e nlf)]
            exact s5 _ _ (hs _ _ e)
          · rw [upd_ne nll]
            exact s5 _ _ hl'
          · exact (hy'.same s5).put hf5
          · rw [upd_same, et, List.filter_append, List.map_append, List.map_append]
            simp [c]
        · have c : ¬ leastL (othL ps a.1) = m := c
          refine ⟨hs.trans s5, s5 _ _ hl', hy'.same s5, ?_, _, _, rfl⟩
          rw [hf5, et, List.filter_append]
          simp [c]
    · rintro σ H' ⟨hs, hl', hy', hf', v1, v2, rfl⟩
      rw [hyl, List.take_length] at hf'
      exact ⟨_, rfl, lf, _, rfl, .inl ⟨SqL.of hf', fun t7 ht7 => k t7 _ (same_before hs ht7) (hs.trans (up ht7)) upd_same⟩⟩
end
/-! ### trials -/
def keptFs (t q : Addr) : List (Str × V) := [("steps", .ref t), ("stack", .ref q), ("ahead", .non)]
def trialFs (r : Addr) (v : V) : List (Str × V) := [("road", .ref r), ("kept", v)]
def spKept (K : PySem.W.Frag) : Sp := fun vs H Q _ => ∃ (t q : Addr), vs = [.ref t, .ref q, .non] ∧ ∀ kp dk H', H kp = none → Same H H' → H' kp = some (.ins (He.ga K "Kept") dk (keptFs t q)) → Q (.ref kp) H'
def spKept0 (K : PySem.W.Frag) : Sp := fun vs H Q _ => ∃ (x dx t q : Addr), vs = [.ref x, .ref t, .ref q, .non] ∧ H x = some (.ins (He.ga K "Kept") dx []) ∧ ∀ H', Kp x H H' → H' x = some (.ins (He.ga K "Kept") dx (keptFs t q)) → Q .non H'
def spTrial (K : PySem.W.Frag) : Sp := fun vs H Q _ => ∃ (r : Addr), vs = [.ref r] ∧ ∀ tr dt H', H tr = none → Same H H' → H' tr = some (.ins (He.ga K "Trial") dt (trialFs r .non)) → Q (.ref tr) H'
def spTrial0 (K : PySem.W.Frag) : Sp := fun vs H Q _ => ∃ (x dx r : Addr), vs = [.ref x, .ref r] ∧ H x = some (.ins (He.ga K "Trial") dx []) ∧ ∀ H', Kp x H H' → H' x = some (.ins (He.ga K "Trial") dx (trialFs r .non)) → Q .non H'
def spTrialR (K : PySem.W.Frag) : Sp := fun vs H Q _ => ∃ (r : Addr) (b : Int) (ss : List Stp), vs = [.ref r] ∧ RoadAt K H r b ss ∧ ∀ tr dt H', H tr = none → Same H H' → H' tr = some (.ins (He.ga K "Trial") dt (trialFs r .non)) → Q (.ref tr) H'
def spEnter (K : PySem.W.Frag) : Sp := fun vs H Q _ => ∃ (tr dt r dr t q : Addr) (b : Int), vs = [.ref tr] ∧ H tr = some (.ins (He.ga K "Trial") dt (trialFs r .non)) ∧ H r = some (.ins (He.ga K "Road") dr (roadFs b t q)) ∧
  ∀ kp dk H', H kp = none → Kp tr H H' → H' tr = some (.ins (He.ga K "Trial") dt (trialFs r (.ref kp))) → H' kp = some (.ins (He.ga K "Kept") dk (keptFs t q)) → Q (.ref r) H'
def spExit (K : PySem.W.Frag) : Sp := fun vs H Q _ => ∃ (tr dt r dr t q t2 q2 kp dk : Addr) (b : Int), vs = [.ref tr, .non, .non, .non] ∧ H tr = some (.ins (He.ga K "Trial") dt (trialFs r (.ref kp))) ∧ H kp = some (.ins (He.ga K "Kept") dk (keptFs t q)) ∧ H r = some (.ins (He.ga K "Road") dr (roadFs b t2 q2)) ∧
  ∀ H', (∀ z o, z ≠ tr → z ≠ r → H z = some o → H' z = some o) → H' r = some (.ins (He.ga K "Road") dr (roadFs b t q)) → Q .non H'
section
variable {P : Program} {w : World} {K : PySem.W.Frag} {mg : Str → Option Value} {base : Heap}
theorem ok_Kept (T : Tx w K mg) : PromC P w K mg base CX0 1 "Kept" (spKept K) := by
  refine PromC.plain (sp0 := spKept0 K) T.mk_Kept T.k_Kept T.dm_Kept___init__ sc_Kept___init__ (fun vs H Q E h => ?_) (fun _ _ _ _ _ _ us hl => match us, hl with | [_, _, _, _], _ => rfl) (fun f cdv A outer s H vs Q E hr h => ?_) (fun vs H Q E h x dx hx hdx ne => ?_)
  · obtain ⟨x, dx, t, q, rfl, _⟩ := h
    rfl
  · obtain ⟨x, dx, t, q, rfl, hx, k⟩ := h
    refine ⟨_, (pss_cons (ps_fld (pv 0) (pv 1) rfl)
      (pss_cons (ps_fld (pv 0) (pv 2) rfl)
      (pss_one (ps_fld (pv 0) (pv 3) rfl)))), ?_⟩
    refine ⟨_, rfl, _, rfl, x, _, dx, _, rfl, hx, T.cl_Kept, T.na_Kept_steps, (show (0 : Nat) < 1000 by decide), ?_⟩
    refine ⟨_, rfl, _, rfl, x, _, dx, _, rfl, upd_same, T.cl_Kept, T.na_Kept_stack, (show (1 : Nat) < 1000 by decide), ?_⟩
    refine ⟨_, rfl, _, rfl, x, _, dx, _, rfl, upd_same, T.cl_Kept, T.na_Kept_ahead, (show (2 : Nat) < 1000 by decide), ?_⟩
    exact k _ (Kp.set (Kp.set (Kp.set (Kp.refl x H)))) upd_same
  · obtain ⟨t, q, rfl, k⟩ := h
    have same : Same H (upd (upd H dx (.own x)) x (.ins (He.ga K "Kept") dx [])) := fun z o e => by
      rw [upd_ne (ne_of_none e hx), upd_ne (ne_of_none e hdx)]
      exact e
    exact ⟨x, dx, t, q, rfl, upd_same, fun H' kp hx' => ⟨rfl, k x dx H' hx (fun z o e => kp _ _ (ne_of_none e hx) (same _ _ e)) hx'⟩⟩
theorem ok_Trial (T : Tx w K mg) : PromC P w K mg base CX0 1 "Trial" (spTrial K) := by
  refine PromC.plain (sp0 := spTrial0 K) T.mk_Trial T.k_Trial T.dm_Trial___init__ sc_Trial___init__ (fun vs H Q E h => ?_) (fun _ _ _ _ _ _ us hl => match us, hl with | [_, _], _ => rfl) (fun f cdv A outer s H vs Q E hr h => ?_) (fun vs H Q E h x dx hx hdx ne => ?_)
  · obtain ⟨x, dx, r, rfl, _⟩ := h
    rfl
  · obtain ⟨x, dx, r, rfl, hx, k⟩ := h
    refine ⟨_, (pss_cons (ps_fld (pv 0) (pv 1) rfl)
      (pss_one (ps_fld (pv 0) pe_non rfl))), ?_⟩
    refine ⟨_, rfl, _, rfl, x, _, dx, _, rfl, hx, T.cl_Trial, T.na_Trial_road, (show (0 : Nat) < 1000 by decide), ?_⟩
    refine ⟨_, rfl, x, _, dx, _, rfl, upd_same, T.cl_Trial, T.na_Trial_kept, (show (1 : Nat) < 1000 by decide), ?_⟩
    exact k _ (Kp.set (Kp.set (Kp.refl x H))) upd_same
  · obtain ⟨r, rfl, k⟩ := h
    have same : Same H (upd (upd H dx (.own x)) x (.ins (He.ga K "Trial") dx [])) := fun z o e => by
      rw [upd_ne (ne_of_none e hx), upd_ne (ne_of_none e hdx)]
      exact e
    exact ⟨x, dx, r, rfl, upd_same, fun H' kp hx' => ⟨rfl, k x dx H' hx (fun z o e => kp _ _ (ne_of_none e hx) (same _ _ e)) hx'⟩⟩
theorem ok_Road_trial (T : Tx w K mg) : PromM P w K mg base CX0 3 "Road" "trial" ["self"] (spTrialR K) := by
  refine PromM.of T.cl_Road T.me_Road_trial T.dm_Road_trial sc_Road_trial (fun vs H Q E h => ?_) (fun _ _ _ _ _ _ us hl => match us, hl with | [_], _ => rfl) (fun f cdv A outer s H vs Q E hr h => ?_)
  · obtain ⟨r, b, ss, rfl, _⟩ := h
    rfl
  · obtain ⟨r, b, ss, rfl, hR, k⟩ := h
    refine ⟨_, (pss_cons (ps_expr (pe_callP (ok_check_free T) (hr.mono (by decide)) (by rfl) pass0 (pa_cons (pv 0) pa_nil)))
      (pss_one (ps_ret (pe_newP (ok_Trial T) (hr.mono (by decide)) (by rfl) pass0 (pa_cons (pv 0) pa_nil))))), ?_⟩
    exact ⟨_, rfl, r, b, ss, rfl, hR, _, rfl, r, rfl, fun tr dt H' n s h => k tr dt H' n s h⟩
theorem ok_Trial___enter__ (T : Tx w K mg) : PromM P w K mg base CX0 3 "Trial" "__enter__" ["self"] (spEnter K) := by
  refine PromM.of T.cl_Trial T.me_Trial___enter__ T.dm_Trial___enter__ sc_Trial___enter__ (fun vs H Q E h => ?_) (fun _ _ _ _ _ _ us hl => match us, hl with | [_], _ => rfl) (fun f cdv A outer s H vs Q E hr h => ?_)
  · obtain ⟨tr, dt, r, dr, t, q, b, rfl, _⟩ := h
    rfl
  · obtain ⟨tr, dt, r, dr, t, q, b, rfl, htr, hr0, k⟩ := h
    refine ⟨_, (pss_cons (ps_fld (pv 0) (pe_newP (ok_Kept T) (hr.mono (by decide)) (by rfl) pass0 (pa_cons (pe_fld (pe_fld (pv 0) rfl) rfl) (pa_cons (pe_fld (pe_fld (pv 0) rfl) rfl) (pa_cons (pe_fld (pv 0) rfl) pa_nil)))) rfl)
      (pss_one (ps_ret (pe_fld (pv 0) rfl)))), ?_⟩
    refine ⟨_, rfl, tr, _, dt, _, _, rfl, htr, T.cl_Trial, T.na_Trial_road, rfl, r, _, dr, _, _, rfl, hr0, T.cl_Road, T.na_Road_steps, rfl, ?_⟩
    refine ⟨_, rfl, tr, _, dt, _, _, rfl, htr, T.cl_Trial, T.na_Trial_road, rfl, r, _, dr, _, _, rfl, hr0, T.cl_Road, T.na_Road_stack, rfl, ?_⟩
    refine ⟨_, rfl, tr, _, dt, _, _, rfl, htr, T.cl_Trial, T.na_Trial_kept, rfl, t, q, rfl, fun kp dk H1 nk s1 hk => ?_⟩
    refine ⟨_, rfl, tr, _, dt, _, rfl, s1 _ _ htr, T.cl_Trial, T.na_Trial_kept, (show (2 : Nat) < 1000 by decide), ?_⟩
    refine ⟨_, rfl, tr, _, dt, _, _, rfl, upd_same, T.cl_Trial, T.na_Trial_road, rfl, ?_⟩
    have nkt : kp ≠ tr := fun z => by rw [z, htr] at nk; cases nk
    exact k kp dk _ nk (Kp.set fun z o n e => s1 _ _ e) upd_same (by rw [upd_ne nkt]; exact hk)
theorem ok_Trial___exit__ (T : Tx w K mg) : PromM P w K mg base CX0 1 "Trial" "__exit__" ["self", "kind", "value", "trace"] (spExit K) := by
  refine PromM.of T.cl_Trial T.me_Trial___exit__ T.dm_Trial___exit__ sc_Trial___exit__ (fun vs H Q E h => ?_) (fun _ _ _ _ _ _ us hl => match us, hl with | [_, _, _, _], _ => rfl) (fun f cdv A outer s H vs Q E hr h => ?_)
  · obtain ⟨tr, dt, r, dr, t, q, t2, q2, kp, dk, b, rfl, _⟩ := h
    rfl
  · obtain ⟨tr, dt, r, dr, t, q, t2, q2, kp, dk, b, rfl, htr, hk, hr0, k⟩ := h
    have n1 : tr ≠ r := fun z => by rw [z, hr0] at htr; injection htr with htr; injection htr with htr; exact T.ne_Trial_Road htr.symm
    have n2 : kp ≠ r := fun z => by rw [z, hr0] at hk; injection hk with hk; injection hk with hk; exact T.ne_Kept_Road hk.symm
    have n3 : kp ≠ tr := fun z => by rw [z, htr] at hk; injection hk with hk; injection hk with hk; exact T.ne_Kept_Trial hk.symm
    refine ⟨_, (pss_cons (ps_fld (pe_fld (pv 0) rfl) (pe_fld (pe_fld (pv 0) rfl) rfl) rfl)
      (pss_cons (ps_fld (pe_fld (pv 0) rfl) (pe_fld (pe_fld (pv 0) rfl) rfl) rfl)
      (pss_one (ps_fld (pv 0) (pe_fld (pe_fld (pv 0) rfl) rfl) rfl)))), ?_⟩
    refine ⟨_, rfl, tr, _, dt, _, _, rfl, htr, T.cl_Trial, T.na_Trial_kept, rfl, kp, _, dk, _, _, rfl, hk, T.cl_Kept, T.na_Kept_steps, rfl, ?_⟩
    refine ⟨_, rfl, tr, _, dt, _, _, rfl, htr, T.cl_Trial, T.na_Trial_road, rfl, r, _, dr, _, rfl, hr0, T.cl_Road, T.na_Road_steps, (show (4 : Nat) < 1000 by decide), ?_⟩
    have htr1 : ∀ o, (upd H r o) tr = some (.ins (He.ga K "Trial") dt (trialFs r (.ref kp))) := fun o => by rw [upd_ne n1]; exact htr
    have hk1 : ∀ o, (upd H r o) kp = some (.ins (He.ga K "Kept") dk (keptFs t q)) := fun o => by rw [upd_ne n2]; exact hk
    refine ⟨_, rfl, tr, _, dt, _, _, rfl, htr1 _, T.cl_Trial, T.na_Trial_kept, rfl, kp, _, dk, _, _, rfl, hk1 _, T.cl_Kept, T.na_Kept_stack, rfl, ?_⟩
    refine ⟨_, rfl, tr, _, dt, _, _, rfl, htr1 _, T.cl_Trial, T.na_Trial_road, rfl, r, _, dr, _, rfl, upd_same, T.cl_Road, T.na_Road_stack, (show (4 : Nat) < 1000 by decide), ?_⟩
    have htr2 : ∀ o o2, (upd (upd H r o) r o2) tr = some (.ins (He.ga K "Trial") dt (trialFs r (.ref kp))) := fun o o2 => by rw [upd_ne n1]; exact htr1 o
    have hk2 : ∀ o o2, (upd (upd H r o) r o2) kp = some (.ins (He.ga K "Kept") dk (keptFs t q)) := fun o o2 => by rw [upd_ne n2]; exact hk1 o
    refine ⟨_, rfl, tr, _, dt, _, _, rfl, htr2 _ _, T.cl_Trial, T.na_Trial_kept, rfl, kp, _, dk, _, _, rfl, hk2 _ _, T.cl_Kept, T.na_Kept_ahead, rfl, ?_⟩
    refine ⟨_, rfl, tr, _, dt, _, rfl, htr2 _ _, T.cl_Trial, T.na_Trial_kept, (show (2 : Nat) < 1000 by decide), ?_⟩
    exact k _ (fun z o m1 m2 e => by rw [upd_ne m1, upd_ne m2, upd_ne m2]; exact e) (by rw [upd_ne (Ne.symm n1)]; exact upd_same)
end
/-! ### attempt: a function made elsewhere is called within a trial -/
def spAttempt (K : PySem.W.Frag) (g : Addr) (F : NdefX.NF) (ws : List (Option V)) (spF : List (Option V) → Sp) : Sp := fun vs H Q _ => ∃ (r : Addr) (b : Int) (ss : List Stp), vs = [.ref r, .ref g] ∧ RoadAt K H r b ss ∧ H g = some (NdefX.FnO g F) ∧ H F.c = some (LamX.CodeO F.c F.qual) ∧
  ∀ (H1 : Hp) (Q' : VK), Same H H1 → RoadAt K H1 r b ss → (∀ u H2, Kp r H1 H2 → (∃ ss2, RoadAt K H2 r b ss2) → (∀ H3, Kp r H H3 → RoadAt K H3 r b ss → Q u H3) → Q' u H2) → spF ws [.ref r] H1 Q' E0
section
variable {P : Program} {w : World} {K : PySem.W.Frag} {mg : Str → Option Value} {base : Heap}
theorem ok_attempt (T : Tx w K mg) {g : Addr} {F : NdefX.NF} {ws : List (Option V)} {spF : List (Option V) → Sp} {psF fr : List Str} {kk : Nat} (Fn : NOkG P w K mg base kk g F psF fr spF) (hkk : kk ≤ 13) : PromH P w K mg base 14 "attempt" s_attempt ["road", "act"] (CapAt F fr ws) (spAttempt K g F ws spF) := by
  refine PromH.of T.d_attempt sc_attempt (fun vs H Q E h => ?_) (fun _ _ _ _ _ _ us hl => match us, hl with | [_, _], _ => rfl) (fun f cdv A outer s H vs Q E hr hgd hcl h => ?_)
  · obtain ⟨r, b, ss, rfl, _⟩ := h
    rfl
  · obtain ⟨r, b, ss, rfl, hR, hg, hc, k⟩ := h
    obtain ⟨dx, t, q, xs, h1, h2, h3, h4⟩ := hR.at_
    refine ⟨_, (pss_one (ps_with (i := 2) (ok_Trial___enter__ T) (ok_Trial___exit__ T) (hr.mono (by decide)) (hr.mono (by decide)) sc_attempt.nd rfl (.inl rfl) (pe_methP0 (ok_Road_trial T) (hr.mono (by decide)) pass0 (pv 0)) (pss_one (ps_ret (pe_act (i := 1) hcl rfl Fn hgd hr hkk rfl (.inl rfl) (pa_cons (pv 2) pa_nil)))))), ?_⟩
    refine ⟨_, rfl, r, dx, _, rfl, h1, rfl, r, b, ss, rfl, hR, fun tr dt H1 ntr s1 htr => ?_⟩
    refine ⟨tr, dt, _, rfl, htr, tr, dt, r, dx, t, q, b, rfl, htr, s1 _ _ h1, fun kp dk H2 nk k2 htr2 hk2 => ?_⟩
    have s2 : Same H H2 := fun z o e => k2 z o (ne_of_none e ntr) (s1 z o e)
    have ntr' : r ≠ tr := ne_of_none h1 ntr
    refine ⟨rfl, s2 _ _ hg, _, rfl, s2 _ _ hg, s2 _ _ hc, k H2 _ s2 (hR.same s2) fun u H3 kr hR3 kq => ?_⟩
    obtain ⟨ss2, hR3⟩ := hR3
    obtain ⟨dx3, t3, q3, xs3, g1, _⟩ := hR3.at_
    have nkr : kp ≠ r := fun z => by
      have := s2 _ _ h1
      rw [z, this] at hk2
      injection hk2 with hk2
      injection hk2 with hk2
      exact T.ne_Kept_Road hk2.symm
    refine ⟨tr, dt, r, dx3, t, q, t3, q3, kp, dk, b, rfl, kr _ _ (Ne.symm ntr') htr2, kr _ _ nkr hk2, g1, fun H4 k4 hr4 => ?_⟩
    have k5 : Kp r H H4 := fun z o n e => k4 z o (ne_of_none e ntr) n (kr z o n (s2 z o e))
    have ks := Keeps.road T.ne_Road_Wrap T.ne_Road_Stack h1 k5
    exact kq H4 k5 ⟨⟨dx3, t, q, xs, hr4, ks.tup h2, h3.keeps ks, h4.keeps ks⟩, hR.rb, hR.b0, hR.b1, hR.len⟩
end
/-! ### texts of wraps and stacks -/
theorem nums_two (a : Wr) : a.nums.length ≤ 2 := by cases a <;> simp [Wr.nums]
theorem text_len {a : Wr} (h : a.ok) : a.text.length ≤ 200 := by
  have h1 := join_len (sep := (" " : Str)) (ys := a.kind :: a.nums.map fun i => (toString i : Str))
  have h2 := sum_short a.nums fun z hz => by have := nums_small h z hz; omega
  have h3 := kind_len a
  have h4 := nums_two a
  have h5 : (" " : Str).length = 1 := by decide
  unfold Wr.text
  simp only [List.map_cons, List.sum_cons, List.length_cons, List.length_map] at h1
  rw [h5] at h1
  omega
def baseText (b : Int) : Str := Str.empty ++ "base " ++ (toString b : Str)
def stkText (b : Int) (ws : List Wr) : Str := Txt.join "\n" (baseText b :: ws.map Wr.text)
theorem small_text {b : Int} (h0 : 0 ≤ b) (h1 : b ≤ 256) : (toString b : Str).length ≤ 4 := by
  have h := int_text_length_le10 (k := 3) (a := b) (by decide) (by omega)
  have e : (Str.ofString (toString b)).length = (toString b : String).length := PySem.ofString_length _
  show (Str.ofString (toString b)).length ≤ 4
  omega
theorem texts_sum : ∀ {ws : List Wr}, (∀ a ∈ ws, a.ok) → ((ws.map Wr.text).map (·.length)).sum ≤ 200 * ws.length
  | [], _ => by simp
  | a :: ws, h => by
    have h1 := texts_sum (ws := ws) fun x hx => h x (List.mem_cons_of_mem _ hx)
    have h2 := text_len (h a (List.mem_cons_self ..))
    simp only [List.map_cons, List.sum_cons, List.length_cons]
    omega
def spWStr (K : PySem.W.Frag) : Sp := fun vs H Q _ => ∃ (q : Addr) (a : Wr), vs = [.ref q] ∧ WrapAt K H q a ∧ a.ok ∧ Q (.str a.text) H
def spSStr (K : PySem.W.Frag) : Sp := fun vs H Q _ => ∃ (q : Addr) (b : Int) (ws : List Wr), vs = [.ref q] ∧ StkAt K H q b ws ∧ StkOk b ws ∧ ∀ H', Same H H' → Q (.str (stkText b ws)) H'
section
variable {P : Program} {w : World} {K : PySem.W.Frag} {mg : Str → Option Value} {base : Heap}
theorem ok_Wrap___str__ (T : Tx w K mg) : PromM P w K mg base CX0 1 "Wrap" "__str__" ["self"] (spWStr K) := by
  refine PromM.of T.cl_Wrap T.me_Wrap___str__ T.dm_Wrap___str__ sc_Wrap___str__ (fun vs H Q E h => ?_) (fun _ _ _ _ _ _ us hl => match us, hl with | [_], _ => rfl) (fun f cdv A outer s H vs Q E hr h => ?_)
  · obtain ⟨q, a, rfl, _⟩ := h
    rfl
  · obtain ⟨q, a, rfl, ⟨dx, p, h1, h2⟩, ok, k⟩ := h
    have tl := text_len ok
    refine ⟨_, (pss_one (ps_ret (pe_joined1 (pe_fmt (pe_fld (pv 0) rfl))))), ?_⟩
    exact ⟨_, rfl, q, _, dx, _, _, rfl, h1, T.cl_Wrap, T.na_Wrap_words, rfl, .inl ⟨_, rfl, by rw [sizeLine_eq]; omega, k⟩⟩
end
section
variable {P : Program} {w : World} {K : PySem.W.Frag} {mg : Str → Option Value} {base : Heap}
theorem ok_Stack___str__ (T : Tx w K mg) : PromM P w K mg base CX0 3 "Stack" "__str__" ["self"] (spSStr K) := by
  refine PromM.of T.cl_Stack T.me_Stack___str__ T.dm_Stack___str__ sc_Stack___str__ (fun vs H Q E h => ?_) (fun _ _ _ _ _ _ us hl => match us, hl with | [_], _ => rfl) (fun f cdv A outer s H vs Q E hr h => ?_)
  · obtain ⟨q, b, ws, rfl, _⟩ := h
    rfl
  · obtain ⟨q, b, ws, rfl, ⟨dx, t, xs, hq, ht, hw⟩, so, k⟩ := h
    have hlx := hw.len
    have l6 := so.len
    have bl := small_text (b := b) (by have := so.b0; omega) so.b1
    have e5 : (Str.empty ++ ("base " : Str)).length = 5 := by decide
    have el : (baseText b).length ≤ 9 := by
      show (Str.empty ++ ("base " : Str) ++ (toString b : Str)).length ≤ 9
      rw [PySem.Str.length_append]
      omega
    refine ⟨_, (pss_one (ps_ret (pe_join pe_str (pe_lst (pa_cons (pe_joined (PJ.cons pe_str (PJ.cons (pe_fmt (pe_fld (pv 0) rfl)) PJ.nil))) (StX.pa_star (pe_lc (own := [("wrap", 1)]) (g := (gName 1)) (tt := tYes) (by rfl) sc_Stack___str__.nd (pi_tup (pe_fld (pv 0) rfl)) (blkOk_by (own := [("wrap", 1)]) (N := ["self", "wrap"]) (sc := defScope s_Stack___str__) (by decide +kernel)) (fun _ _ _ _ _ => (pg_name (i := 1) sc_Stack___str__.nd rfl (Or.inl rfl))) (fun _ _ _ _ _ => pts_nil) (fun _ _ _ _ _ => (pe_joined1 (show PE _ _ (tFmtO (He.ga K "Wrap") _ _ _) from (pe_fmtO T.st_Wrap (ok_Wrap___str__ T) (hr.mono (by decide)) pass0 (pv 1)))))) pa_nil)))))), ?_⟩
    refine ⟨⟨_, rfl⟩, _, rfl, by rw [e5]; decide, _, rfl, q, _, dx, _, _, rfl, hq, T.cl_Stack, T.na_Stack_base, rfl, .inr ⟨b, rfl, log2_small (by have := so.b0; omega) (by have := so.b1; omega), _, rfl, ?_, ?_⟩⟩
    · show (baseText b).length ≤ sizeLine
      rw [sizeLine_eq]
      omega
    refine ⟨_, rfl, q, _, dx, _, _, rfl, hq, T.cl_Stack, T.na_Stack_wraps, rfl, t, rfl, ⟨_, SqT.of ht⟩, fun D hD => ?_⟩
    refine lc_tup (K := K) (a := t) (xs := xs) (Pv := fun i H' => Same H H' ∧ H' D = some (.lst ((ws.take i).map fun z => V.str z.text))) ⟨up hD, upd_same⟩ (fun i H' _ h => SqT.of (h.1 _ _ ht)) ?_ ?_
    · rintro i y H' hi ⟨hs, hl⟩
      obtain ⟨r, a, rfl, ha, hw1⟩ := hw.get hi
      obtain ⟨dx2, p, g1, g2⟩ := hw1.same hs
      refine ⟨rfl, _, rfl, r, dx2, _, rfl, g1, r, a, rfl, ⟨dx2, p, g1, g2⟩, so.ok a (List.mem_of_getElem? ha), _, rfl, _, hl, ?_, fun z o e => ?_, ?_⟩
      · rw [List.length_map, List.length_take, sizeLine_eq]
        omega
      · rw [upd_ne (ne_of_none e hD)]
        exact hs _ _ e
      · rw [upd_same, List.take_succ, ha, List.map_append]
        rfl
    · rintro H' ⟨hs, hl⟩
      rw [hlx, List.take_length] at hl
      refine ⟨D, _, rfl, .inr (SqL.of hl), ?_, fun l hl2 => ?_⟩
      · simp
        rw [sizeLine_eq]
        omega
      have el2 : V.str (baseText b) :: (ws.map (fun z => V.str z.text) ++ []) = (baseText b :: ws.map Wr.text).map V.str := by simp
      refine ⟨_, l, baseText b :: ws.map Wr.text, rfl, rfl, .inl (SqL.of (by rw [← el2]; exact upd_same)), ?_, ?_⟩
      · have h1 := texts_sum so.ok
        have h2 : ("\n" : Str).length = 1 := by decide
        simp only [List.map_cons, List.sum_cons, List.length_cons, List.length_map] at h1 ⊢
        rw [h2]
        omega
      · exact k _ (hs.trans (up hl2))
end
/-! ### what is read stays read -/
theorem sqL_same {K : PySem.W.Frag} {H H' : Hp} {a : Addr} {xs : List V} (s : Same H H') (h : SqL K H a xs) : SqL K H' a xs := by
  rcases h with (h | ⟨o, h⟩) | h
  · exact .inl (.inl (s _ _ h))
  · exact .inl (.inr ⟨o, s _ _ h⟩)
  · exact .inr h
theorem sqT_same {K : PySem.W.Frag} {H H' : Hp} {a : Addr} {xs : List V} (s : Same H H') (h : SqT K H a xs) : SqT K H' a xs := by
  rcases h with (h | ⟨o, h⟩) | h
  · exact .inl (.inl (s _ _ h))
  · exact .inl (.inr ⟨o, s _ _ h⟩)
  · exact .inr h
mutual
theorem Dp.same {K : PySem.W.Frag} {H H' : Hp} (s : Same H H') : ∀ {v : V} {d : PyData}, Dp K H v d → Dp K H' v d
  | _, _, .non => .non
  | _, _, .bl b => .bl b
  | _, _, .int i => .int i
  | _, _, .str x => .str x
  | _, _, .lst h g => .lst (sqL_same s h) (DpAll.same s g)
  | _, _, .tup h g => .tup (sqT_same s h) (DpAll.same s g)
theorem DpAll.same {K : PySem.W.Frag} {H H' : Hp} (s : Same H H') : ∀ {xs : List V} {ds : List PyData}, DpAll K H xs ds → DpAll K H' xs ds
  | _, _, .nil => .nil
  | _, _, .cons h g => .cons (Dp.same s h) (DpAll.same s g)
end
theorem Shw.same {K : PySem.W.Frag} {H H' : Hp} {v : V} {z : Str} (s : Same H H') (h : Shw K H v z) : Shw K H' v z := by
  cases h with
  | flat h => exact .flat h
  | str h => exact .str h
  | dat h h1 h2 h3 h4 => exact .dat (Dp.same s h) h1 h2 h3 h4
  | edict h => exact .edict (s _ _ h)
/-! ### what repr can show -/
structure ShE (d : PyData) (D N : Nat) : Prop where
  sho : d.showable = true
  nod : d.hasDict = false
  dep : d.depth ≤ D
  len : d.shown.length ≤ N
theorem ShE.up {d : PyData} {D N D' N' : Nat} (h : ShE d D N) (h1 : D ≤ D') (h2 : N ≤ N') : ShE d D' N' := ⟨h.sho, h.nod, Nat.le_trans h.dep h1, Nat.le_trans h.len h2⟩
theorem ShE.int {i : Int} (h : i.natAbs < 10 ^ 90) : ShE (.int i) 1 91 := by
  refine ⟨decide_eq_true ?_, rfl, by simp [PyData.depth], ?_⟩
  · have h4 : i.natAbs < 2 ^ 300 := Nat.lt_of_lt_of_le h (by decide)
    exact Nat.lt_of_lt_of_le (PySem.Flt.log2_lt_of (by decide) h4) (by decide)
  · have := int_text_length_le10 (k := 90) (by decide) h
    have e : (Str.ofString (toString i)).length = (toString i : String).length := PySem.ofString_length _
    show (Str.ofString (toString i)).length ≤ 91
    omega
theorem ShE.bool (c : Bool) : ShE (.bool c) 1 5 := by
  cases c <;> exact ⟨rfl, rfl, by simp [PyData.depth], by decide⟩
theorem ShE.all {ds : List PyData} {D N : Nat} (h : ∀ d ∈ ds, ShE d D N) : PyData.showableAll ds = true ∧ PyData.hasDictAll ds = false ∧ PyData.depthAll ds ≤ D ∧ ((PyData.shownAll ds).map (·.length)).sum ≤ ds.length * N := by
  induction ds with
  | nil => exact ⟨rfl, rfl, Nat.zero_le _, by simp [PyData.shownAll]⟩
  | cons d ds ih =>
    obtain ⟨a1, a2, a3, a4⟩ := ih fun x hx => h x (.tail _ hx)
    obtain ⟨b1, b2, b3, b4⟩ := h d (.head _)
    refine ⟨?_, ?_, ?_, ?_⟩
    · simp only [PyData.showableAll, a1, b1, Bool.and_self]
    · simp only [PyData.hasDictAll, a2, b2, Bool.or_self]
    · simp only [PyData.depthAll]
      omega
    · rw [PyData.shownAll_cons, List.map_cons, List.sum_cons, List.length_cons, Nat.succ_mul]
      omega
theorem ShE.list {ds : List PyData} {D N : Nat} (h : ∀ d ∈ ds, ShE d D N) : ShE (.list ds) (D + 1) (ds.length * (N + 2) + 3) := by
  obtain ⟨a1, a2, a3, a4⟩ := ShE.all h
  refine ⟨by simp only [PyData.showable, a1], by simp only [PyData.hasDict, a2], by simp only [PyData.depth]; omega, ?_⟩
  show (listText (PyData.shownAll ds)).length ≤ _
  have := listText_len_le (PyData.shownAll ds)
  rw [PyData.shownAll_length] at this
  rw [Nat.mul_add]
  omega
theorem ShE.tup {ds : List PyData} {D N : Nat} (h : ∀ d ∈ ds, ShE d D N) : ShE (.tuple ds) (D + 1) (ds.length * (N + 2) + 3) := by
  obtain ⟨a1, a2, a3, a4⟩ := ShE.all h
  refine ⟨by simp only [PyData.showable, a1], by simp only [PyData.hasDict, a2], by simp only [PyData.depth]; omega, ?_⟩
  show (tupleText (PyData.shownAll ds)).length ≤ _
  have := tupleText_len_le (PyData.shownAll ds)
  rw [PyData.shownAll_length] at this
  rw [Nat.mul_add]
  omega
theorem ShE.ints {xs : List Int} (h : ∀ x ∈ xs, x.natAbs < 10 ^ 90) : ShE (.tuple (xs.map PyData.int)) 2 (xs.length * 93 + 3) := by
  have := ShE.tup (D := 1) (N := 91) (ds := xs.map PyData.int) (fun d hd => by
    obtain ⟨x, hx, rfl⟩ := List.mem_map.mp hd
    exact ShE.int (h x hx))
  rw [List.length_map] at this
  exact this
theorem dp_intsA {K : PySem.W.Frag} {H : Hp} : ∀ xs : List Int, DpAll K H (xs.map V.int) (xs.map PyData.int)
  | [] => .nil
  | x :: xs => .cons (.int x) (dp_intsA xs)
/-! ### words of wraps and stacks, steps as they are shown -/
theorem app_len (x y : Str) : (x ++ y).length = x.length + y.length := PySem.Str.length_append x y
theorem cut1 {x : V} {xs : List V} : cutV (x :: xs) (some 1) none = xs := by
  have e : HT.sIx (x :: xs).length 0 (some 1) = min 1 (xs.length + 1) := HT.sIx_nat _ 0 1
  unfold cutV
  rw [e, HT.sIx_none, List.length_cons, Nat.min_eq_left (by omega)]
  exact List.take_length
theorem cut1_no {x : V} {xs : List V} {k : Nat} : ¬ (HT.sIx (x :: xs).length 0 (some 1) = 0 ∧ k = (x :: xs).length) := fun z => by
  have z := z.1
  have e : HT.sIx (x :: xs).length 0 (some 1) = min 1 (xs.length + 1) := HT.sIx_nat _ 0 1
  omega
theorem sz {n : Nat} (h : n ≤ 5000) : n ≤ sizeLine := Nat.le_trans h (by decide)
theorem log2_any {i : Int} (h0 : -10 ^ 100 ≤ i) (h1 : i ≤ 10 ^ 100) : i.natAbs.log2 < 1920 := by
  have h3 : i.natAbs < 2 ^ 400 := Nat.lt_of_le_of_lt (show i.natAbs ≤ 10 ^ 100 by omega) (by decide)
  exact Nat.lt_of_lt_of_le (PySem.Flt.log2_lt_of (by decide) h3) (by decide)
def Good (n : Nat) (s : Str) : Prop := s.length ≤ n ∧ PyData.strOk s = true
theorem ok_mem {s : Str} : PyData.strOk s = true ↔ ∀ c ∈ TL.tl s, c < 0x110000 := by
  show s.cps.all (· < 0x110000) = true ↔ _
  rw [← Array.all_toList, List.all_eq_true]
  exact ⟨fun h c hc => of_decide_eq_true (h c hc), fun h c hc => decide_eq_true (h c hc)⟩
theorem joinL_mem2 {S : List Nat} {c : Nat} : ∀ {ps : List (List Nat)}, c ∈ TL.joinL S ps → c ∈ S ∨ ∃ p ∈ ps, c ∈ p
  | [], h => by cases h
  | [p], h => .inr ⟨p, .head _, h⟩
  | p :: q :: r, h => by
    have h : c ∈ p ++ (S ++ TL.joinL S (q :: r)) := h
    rcases List.mem_append.mp h with h | h
    · exact .inr ⟨p, .head _, h⟩
    rcases List.mem_append.mp h with h | h
    · exact .inl h
    rcases joinL_mem2 h with h | ⟨x, hx, h⟩
    · exact .inl h
    · exact .inr ⟨x, .tail _ hx, h⟩
theorem good_app {m n : Nat} {x y : Str} (h : Good m x) (g : Good n y) : Good (m + n) (x ++ y) := by
  refine ⟨by rw [app_len]; exact Nat.add_le_add h.1 g.1, ok_mem.mpr fun c hc => ?_⟩
  rw [TL.tl_append] at hc
  rcases List.mem_append.mp hc with hc | hc
  · exact ok_mem.mp h.2 c hc
  · exact ok_mem.mp g.2 c hc
theorem sum_le_of {n : Nat} : ∀ {ps : List Str}, (∀ p ∈ ps, Good n p) → (ps.map (·.length)).sum ≤ n * ps.length
  | [], _ => Nat.zero_le _
  | p :: ps, h => by
    have h1 := (h p (.head _)).1
    have h2 := sum_le_of fun q hq => h q (.tail _ hq)
    simp only [List.map_cons, List.sum_cons, List.length_cons, Nat.mul_add]
    omega
theorem good_join {n : Nat} {sep : Str} (hs : Good 1 sep) {ps : List Str} (h : ∀ p ∈ ps, Good n p) : Good ((n + 1) * ps.length) (Txt.join sep ps) := by
  rw [TL.join_eq]
  refine ⟨?_, ok_mem.mpr fun c hc => ?_⟩
  · have h1 := StrLaws.join_length_le sep ps
    have h2 := sum_le_of h
    have h3 := Nat.mul_le_mul_left ps.length hs.1
    rw [Nat.add_mul]
    omega
  · rw [TL.tl_join] at hc
    rcases joinL_mem2 hc with hc | ⟨p, hp, hc⟩
    · exact ok_mem.mp hs.2 c hc
    · obtain ⟨q, hq, rfl⟩ := List.mem_map.mp hp
      exact ok_mem.mp (h q hq).2 c hc
theorem good_num {i : Int} (h0 : 0 ≤ i) (h1 : i ≤ 1000) : Good 5 (Str.ofString (toString i)) := by
  refine ⟨Nat.le_trans (toString_length_le h0 (k := 4) (by decide) (by omega)) (by decide), ok_mem.mpr fun c hc => ?_⟩
  obtain ⟨n, rfl⟩ : ∃ n : Nat, i = (n : Int) := ⟨i.toNat, by omega⟩
  rw [TL.tl_num] at hc
  have := TL.numL_digits n c hc
  omega
theorem good_mono {m n : Nat} {s : Str} (h : Good m s) (k : m ≤ n) : Good n s := ⟨Nat.le_trans h.1 k, h.2⟩
theorem good_kind (a : Wr) : Good 6 a.kind := by
  cases a with
  | plus _ => exact (show Good 6 "plus" from ⟨by decide, by decide +kernel⟩)
  | told _ => exact (show Good 6 "told" from ⟨by decide, by decide +kernel⟩)
  | whole _ => exact (show Good 6 "whole" from ⟨by decide, by decide +kernel⟩)
  | pieces _ _ => exact (show Good 6 "pieces" from ⟨by decide, by decide +kernel⟩)
  | cut _ _ => exact (show Good 6 "cut" from ⟨by decide, by decide +kernel⟩)
  | coded _ _ => exact (show Good 6 "coded" from ⟨by decide, by decide +kernel⟩)
  | filled _ => exact (show Good 6 "filled" from ⟨by decide, by decide +kernel⟩)
theorem nums_good {a : Wr} (h : a.ok) : ∀ i ∈ a.nums, 0 ≤ i ∧ i ≤ 1000 := by
  intro i hi
  cases a with
  | plus c => simp only [Wr.nums, List.mem_cons, List.not_mem_nil, or_false] at hi; subst hi; exact h
  | told c => simp only [Wr.nums, List.mem_cons, List.not_mem_nil, or_false] at hi; subst hi; exact h
  | whole c => simp only [Wr.nums, List.mem_cons, List.not_mem_nil, or_false] at hi; subst hi; exact h
  | filled c => simp only [Wr.nums, List.mem_cons, List.not_mem_nil, or_false] at hi; subst hi; simp only [Wr.ok] at h; omega
  | pieces m c => simp only [Wr.nums, List.mem_cons, List.not_mem_nil, or_false] at hi; simp only [Wr.ok] at h; omega
  | cut m c => simp only [Wr.nums, List.mem_cons, List.not_mem_nil, or_false] at hi; simp only [Wr.ok] at h; omega
  | coded m c => simp only [Wr.nums, List.mem_cons, List.not_mem_nil, or_false] at hi; simp only [Wr.ok] at h; omega
theorem nums_len2 (a : Wr) : a.nums.length ≤ 2 := by cases a <;> simp [Wr.nums]
def wTxt (a : Wr) : Str := Txt.join " " (a.kind :: a.nums.map fun i => Str.ofString (toString i))
theorem text_wTxt (a : Wr) : a.text = wTxt a := rfl
theorem wTxt_good {a : Wr} (h : a.ok) : Good 21 (wTxt a) := by
  have g : ∀ x ∈ a.kind :: a.nums.map fun i => Str.ofString (toString i), Good 6 x := by
    intro x hx
    rcases List.mem_cons.mp hx with rfl | hx
    · exact good_kind a
    · obtain ⟨i, hi, rfl⟩ := List.mem_map.mp hx
      have hb := nums_good h i hi
      exact good_mono (good_num hb.1 hb.2) (by decide)
  have gj := good_join (sep := " ") ⟨by decide, by decide +kernel⟩ g
  have n2 := nums_len2 a
  have gl : (a.kind :: a.nums.map fun i => Str.ofString (toString i)).length ≤ 3 := by
    rw [List.length_cons, List.length_map]
    omega
  exact good_mono gj (by omega)
theorem num_free {i : Int} (h : 0 ≤ i) {s : Nat} (hs : s < 48 ∨ 57 < s) : s ∉ TL.tl (Str.ofString (toString i)) := by
  obtain ⟨n, rfl⟩ : ∃ n : Nat, i = (n : Int) := ⟨i.toNat, by omega⟩
  rw [TL.tl_num]
  exact TL.numL_free hs
theorem base_eq (b : Int) : baseText b = ("base" : Str) ++ " " ++ Str.ofString (toString b) := by
  unfold baseText
  rw [PySem.Str.empty_append]
  have e : ("base " : Str) = ("base" : Str) ++ " " := by decide +kernel
  rw [e]
theorem base_good {b : Int} (h0 : 0 ≤ b) (h1 : b ≤ 1000) : Good 10 (baseText b) := by
  rw [base_eq]
  exact good_app (m := 5) (n := 5) (good_app (m := 4) (n := 1) ⟨by decide, by decide +kernel⟩ ⟨by decide, by decide +kernel⟩) (good_num h0 h1)
theorem stk_good {b : Int} {ws : List Wr} (b0 : 0 ≤ b) (b1 : b ≤ 1000) (h : ∀ a ∈ ws, a.ok) : Good (22 * (ws.length + 1)) (stkText b ws) := by
  have g : ∀ x ∈ baseText b :: ws.map Wr.text, Good 21 x := by
    intro x hx
    rcases List.mem_cons.mp hx with rfl | hx
    · exact good_mono (base_good b0 b1) (by decide)
    · obtain ⟨a, ha, rfl⟩ := List.mem_map.mp hx
      exact wTxt_good (h a ha)
  have gj := good_join (sep := "\n") ⟨by decide, by decide +kernel⟩ g
  rw [List.length_cons, List.length_map] at gj
  exact gj
theorem text_ok {a : Wr} (ok : a.ok) : PyData.strOk a.text = true := (good_join (n := 6) (sep := (" " : Str)) ⟨by decide, by decide +kernel⟩ (ps := a.kind :: a.nums.map fun i => (toString i : Str)) (fun s hs => by
  rcases List.mem_cons.mp hs with rfl | hs
  · exact good_kind a
  · obtain ⟨i, hi, rfl⟩ := List.mem_map.mp hs
    have := nums_good ok i hi
    exact good_mono (good_num this.1 this.2) (by decide))).2
theorem ShE.str {s : Str} {N : Nat} (h : PyData.strOk s = true) (hl : s.length ≤ N) : ShE (.str s) 1 (10 * N + 2) := by
  refine ⟨rfl, rfl, by simp [PyData.depth], ?_⟩
  have h2 := StrLaws.reprText_len s (fun c hc => Nat.lt_of_lt_of_le (ok_mem.mp h c hc) (by decide))
  show (reprText s).length ≤ _
  omega
/-! ### all that is seen of a road -/
theorem rb_ok {b : Int} {ss : List Stp} (h : RoadB b ss) {a : Wr} (ha : Stp.push a ∈ ss) : a.ok := by
  obtain ⟨i, hi, e⟩ := List.getElem_of_mem ha
  have s := h.at_ (i := i) (s := .push a) (by rw [List.getElem?_eq_getElem hi, e])
  have s : StkOk b (onL (ss.take i) ++ [a]) := s
  exact s.ok a (by simp)
/-! ### the road's length -/
def spRLen (K : PySem.W.Frag) : Sp := fun vs H Q _ => ∃ (r : Addr) (b : Int) (ss : List Stp), vs = [.ref r] ∧ RoadAt K H r b ss ∧ Q (.int (ss.length : Nat)) H
section
variable {P : Program} {w : World} {K : PySem.W.Frag} {mg : Str → Option Value} {base : Heap}
theorem ok_Road___len__ (T : Tx w K mg) : PromM P w K mg base CX0 1 "Road" "__len__" ["self"] (spRLen K) := by
  refine PromM.of T.cl_Road T.me_Road___len__ T.dm_Road___len__ sc_Road___len__ (fun vs H Q E h => ?_) (fun _ _ _ _ _ _ us hl => match us, hl with | [_], _ => rfl) (fun f cdv A outer s H vs Q E hr h => ?_)
  · obtain ⟨r, b, ss, rfl, _⟩ := h
    rfl
  · obtain ⟨r, b, ss, rfl, hR, k⟩ := h
    obtain ⟨dx, t, q, xs, h1, h2, h3, h4⟩ := hR.at_
    refine ⟨_, (pss_one (ps_ret (pe_callB call_len_seq (by rfl) T.b_len (by decide +kernel) (pa_cons (pe_fld (pv 0) rfl) pa_nil)))), ?_⟩
    refine ⟨_, rfl, r, _, dx, _, _, rfl, h1, T.cl_Road, T.na_Road_steps, rfl, t, xs, rfl, .inr (SqT.of h2), ?_⟩
    show Q (.int (xs.length : Nat)) H
    rw [h3.len]
    exact k
end
/-! ### what a road tells -/
theorem ShE.none : ShE .none 1 5 := ⟨rfl, rfl, by decide, by decide +kernel⟩
theorem pl_uniq {b : Int} {ss : List Stp} {v v' : V} (h : IsPl b ss v) (h' : IsPl b ss v') : v = v' := by
  rcases h with ⟨e, rfl⟩ | ⟨n, i, x, rfl, g1, g2, g3⟩
  · rcases h' with ⟨_, rfl⟩ | ⟨n', _⟩
    · rfl
    · exact absurd e n'
  · rcases h' with ⟨e, _⟩ | ⟨_, i', x', rfl, g1', g2', g3'⟩
    · exact absurd e n
    · rcases Nat.lt_trichotomy i i' with c | c | c
      · exact absurd g2 (g3' i x c g1)
      · rw [c]
      · exact absurd g2' (g3 i' x' c g1')
def vD : V → PyData
  | .int i => .int i
  | _ => .none
noncomputable def grV (b : Int) (ss : List Stp) : V := if leastL (reachL b ss ss.length) < 0 then .non else .int (leastL (reachL b ss ss.length))
open Classical in
noncomputable def oneD (b : Int) (ss : List Stp) (n : Int) : PyData := .list [.tuple ((trailL b ss n (ss.length + 1)).map PyData.int), .bool (decide (fitsP b ss n))]
noncomputable def toldD (b : Int) (ss : List Stp) (ns : List Int) (v : V) : PyData := .list ([vD (grV b ss), vD v, .tuple ((idleL b ss).map PyData.int), .int (ss.length : Nat), .str (stkText b (onL ss))] ++ ns.map (oneD b ss))
def spToldOf (K : PySem.W.Frag) : Sp := fun vs H Q _ => ∃ (r l : Addr) (b : Int) (ss : List Stp) (ns : List Int), vs = [.ref r, .ref l] ∧ RoadAt K H r b ss ∧ ss.length ≤ 20 ∧ H l = some (.lst (ns.map V.int)) ∧ ns.length ≤ 3 ∧ (∀ n ∈ ns, 0 ≤ n ∧ n ≤ 10 ^ 60 - 1) ∧ ∀ v H', IsPl b ss v → Same H H' → Q (.str (toldD b ss ns v).shown) H'
theorem idle_mem {b : Int} {ss : List Stp} : ∀ x ∈ idleL b ss, 0 ≤ x ∧ x < ss.length := fun x hx => by
  obtain ⟨i, _, rfl, h, _⟩ := whichL_mem (List.mem_filter.mp hx).1
  exact ⟨by omega, by omega⟩
theorem idle_len (b : Int) (ss : List Stp) : (idleL b ss).length ≤ ss.length := Nat.le_trans (List.length_filter_le _ _) (whichL_len ss _)
/-- none or an integer of fewer than ninety figures -/
def OptI (v : V) : Prop := v = .non ∨ ∃ i : Int, v = .int i ∧ i.natAbs < 10 ^ 90
theorem OptI.dp {K : PySem.W.Frag} {H : Hp} {v : V} (h : OptI v) : Dp K H v (vD v) := by
  rcases h with rfl | ⟨i, rfl, _⟩
  · exact .non
  · exact .int i
theorem OptI.sh {v : V} (h : OptI v) : ShE (vD v) 1 91 := by
  rcases h with rfl | ⟨i, rfl, hi⟩
  · exact ShE.none.up (by decide) (by decide)
  · exact ShE.int hi
theorem gr_opt {b : Int} {ss : List Stp} (ag : AllG b ss) : OptI (grV b ss) := by
  unfold grV
  have h := least_range ag
  have e : (10 : Nat) ^ 90 > 10 ^ 60 := by decide
  by_cases c : leastL (reachL b ss ss.length) < 0
  · rw [if_pos c]
    exact .inl rfl
  · rw [if_neg c]
    refine .inr ⟨_, rfl, ?_⟩
    have h2 := h.2
    omega
theorem pl_opt {b : Int} {ss : List Stp} {v : V} (h : IsPl b ss v) (l : ss.length ≤ 1000) : OptI v := by
  rcases h with ⟨_, rfl⟩ | ⟨_, i, x, rfl, g1, _⟩
  · exact .inl rfl
  · have hi := (List.getElem?_eq_some_iff.mp g1).1
    have e : (10 : Nat) ^ 90 > 1000 := by decide
    exact .inr ⟨_, rfl, by omega⟩
theorem trailL_small {b n : Int} {ss : List Stp} (rb : RoadB b ss) (b0 : 2 ≤ b) (b1 : b ≤ 256) (n0 : 0 ≤ n) (n1 : n ≤ 10 ^ 60 - 1) (k : Nat) : ∀ x ∈ trailL b ss n k, x.natAbs < 10 ^ 90 := fun x hx => by
  obtain ⟨i, _, rfl⟩ := List.mem_map.mp hx
  have e := trS_on (rb.take i) n
  have so := (rb.take i).stk b0 b1
  have s6 := so.len
  have n2 : n < 2 ^ 200 := Int.lt_of_le_of_lt n1 (by decide)
  have bd := grS_pow b0 (onL (ss.take i)) so.ok (show 12 ≤ 200 by decide) n0 n2
  rw [e]
  have h2 : (2 : Int) ^ (200 + 8 * (onL (ss.take i)).length) ≤ 2 ^ 248 := pow_mono (by decide) (by omega)
  have h3 : (2 : Int) ^ 248 < 10 ^ 90 := by decide
  show (grS b (onL (ss.take i)) n).natAbs < 10 ^ 90
  omega
def refsL (ys : List V) : Prop := ∀ y ∈ ys, ∃ a, y = .ref a
inductive ItemsAt (H : Hp) (b : Int) (ss : List Stp) : List V → List Int → Prop where
  | nil : ItemsAt H b ss [] []
  | cons {p q : Addr} {bb : Bool} {n : Int} {vs : List V} {ns : List Int} (h1 : H p = some (.lst [.ref q, .bl bb])) (h2 : H q = some (.tup ((trailL b ss n (ss.length + 1)).map V.int))) (h3 : bb = true ↔ fitsP b ss n) (r : ItemsAt H b ss vs ns) : ItemsAt H b ss (.ref p :: vs) (n :: ns)
theorem ItemsAt.same {H H' : Hp} {b : Int} {ss : List Stp} {vs : List V} {ns : List Int} (h : ItemsAt H b ss vs ns) (s : Same H H') : ItemsAt H' b ss vs ns := by
  induction h with
  | nil => exact .nil
  | cons h1 h2 h3 _ ih => exact .cons (s _ _ h1) (s _ _ h2) h3 ih
theorem ItemsAt.refs {H : Hp} {b : Int} {ss : List Stp} {vs : List V} {ns : List Int} (h : ItemsAt H b ss vs ns) : refsL vs := by
  induction h with
  | nil => intro y hy; cases hy
  | cons _ _ _ _ ih =>
    intro y hy
    rcases List.mem_cons.mp hy with rfl | hy
    · exact ⟨_, rfl⟩
    · exact ih y hy
theorem ItemsAt.put {H : Hp} {b : Int} {ss : List Stp} {vs ys zs : List V} {ns : List Int} {D : Addr} (h : ItemsAt H b ss vs ns) (hD : H D = some (.lst ys)) (hy : refsL ys) : ItemsAt (upd H D (.lst zs)) b ss vs ns := by
  induction h with
  | nil => exact .nil
  | @cons p q bb n vs ns h1 h2 h3 _ ih =>
    have n1 : p ≠ D := fun z => by
      rw [z, hD] at h1
      injection h1 with h1
      injection h1 with h1
      obtain ⟨a, e⟩ := hy (.bl bb) (by rw [h1]; simp)
      cases e
    have n2 : q ≠ D := fun z => by rw [z, hD] at h2; cases h2
    exact .cons (by rw [upd_ne n1]; exact h1) (by rw [upd_ne n2]; exact h2) h3 ih
theorem ItemsAt.snoc {H : Hp} {b : Int} {ss : List Stp} {vs : List V} {ns : List Int} {p q : Addr} {bb : Bool} {n : Int} (h : ItemsAt H b ss vs ns) (h1 : H p = some (.lst [.ref q, .bl bb])) (h2 : H q = some (.tup ((trailL b ss n (ss.length + 1)).map V.int))) (h3 : bb = true ↔ fitsP b ss n) : ItemsAt H b ss (vs ++ [.ref p]) (ns ++ [n]) := by
  induction h with
  | nil => exact .cons h1 h2 h3 .nil
  | cons g1 g2 g3 _ ih => exact .cons g1 g2 g3 ih
theorem ItemsAt.len {H : Hp} {b : Int} {ss : List Stp} {vs : List V} {ns : List Int} (h : ItemsAt H b ss vs ns) : vs.length = ns.length := by
  induction h with
  | nil => rfl
  | cons _ _ _ _ ih => exact congrArg (· + 1) ih
theorem DpAll.app {K : PySem.W.Frag} {H : Hp} {xs ys : List V} {ds es : List PyData} (h : DpAll K H xs ds) (g : DpAll K H ys es) : DpAll K H (xs ++ ys) (ds ++ es) := by
  induction xs generalizing ds with
  | nil => cases h; exact g
  | cons x xs ih =>
    cases h with
    | cons a r => exact .cons a (ih r)
open Classical in
theorem ItemsAt.dp {K : PySem.W.Frag} {H : Hp} {b : Int} {ss : List Stp} {vs : List V} {ns : List Int} (h : ItemsAt H b ss vs ns) : DpAll K H vs (ns.map (oneD b ss)) := by
  induction h with
  | nil => exact .nil
  | @cons p q bb n vs ns h1 h2 h3 _ ih =>
    have e : oneD b ss n = .list [.tuple ((trailL b ss n (ss.length + 1)).map PyData.int), .bool bb] := by
      have : bb = decide (fitsP b ss n) := by
        cases bb with
        | true => exact (decide_eq_true (h3.mp rfl)).symm
        | false => exact (decide_eq_false fun z => by have := h3.mpr z; cases this).symm
      rw [this]
      rfl
    rw [List.map_cons, e]
    exact .cons (.lst (SqL.of h1) (.cons (.tup (SqT.of h2) (dp_intsA _)) (.cons (.bl bb) .nil))) ih
open Classical in
theorem told_sh {b : Int} {ss : List Stp} {ns : List Int} {v : V} (ag : AllG b ss) (pl : IsPl b ss v) (so : StkOk b (onL ss)) (rb : RoadB b ss) (b0 : 2 ≤ b) (b1 : b ≤ 256) (hlen : ss.length ≤ 20) (nl : ns.length ≤ 3) (hn : ∀ n ∈ ns, 0 ≤ n ∧ n ≤ 10 ^ 60 - 1) : ShE (toldD b ss ns v) 4 400000 := by
  have il := idle_len b ss
  refine (ShE.list (D := 3) (N := 40000) (fun d hd => ?_)).up (Nat.le_refl _) (by rw [List.length_append, List.length_map]; show (5 + ns.length) * (40000 + 2) + 3 ≤ 400000; omega)
  rcases List.mem_append.mp hd with hd | hd
  · simp only [List.mem_cons, List.not_mem_nil, or_false] at hd
    rcases hd with rfl | rfl | rfl | rfl | rfl
    · exact (gr_opt ag).sh.up (by decide) (by decide)
    · exact (pl_opt pl (by omega)).sh.up (by decide) (by decide)
    · refine (ShE.ints fun x hx => ?_).up (by decide) (by omega)
      have hb := idle_mem x hx
      have e : (10 : Nat) ^ 90 > 1000 := by decide
      omega
    · refine (ShE.int ?_).up (by decide) (by decide)
      have e : (10 : Nat) ^ 90 > 1000 := by decide
      omega
    · have g := stk_good (b := b) (ws := onL ss) (by omega) (by omega) so.ok
      have l6 := so.len
      exact (ShE.str (N := 154) g.2 (Nat.le_trans g.1 (by omega))).up (by decide) (by decide)
  · obtain ⟨n, mn, rfl⟩ := List.mem_map.mp hd
    have nb := hn n mn
    refine (ShE.list (D := 2) (N := 1960) (fun d hd => ?_)).up (Nat.le_refl _) (by show 2 * (1960 + 2) + 3 ≤ 40000; decide)
    simp only [List.mem_cons, List.not_mem_nil, or_false] at hd
    rcases hd with rfl | rfl
    · refine (ShE.ints (trailL_small rb b0 b1 nb.1 nb.2 _)).up (Nat.le_refl _) ?_
      rw [trailL_len]
      omega
    · exact (ShE.bool _).up (by decide) (by decide)
theorem hp_any {F : L2.St → Hp → Prop} {σ : L2.St} {H : Hp} (R : Hp → Prop) (h : R H) (k : ∀ G, R G → F σ G) : F σ H := k _ h
section
variable {P : Program} {w : World} {K : PySem.W.Frag} {mg : Str → Option Value} {base : Heap}
theorem ok_L_told_of (T : Tx w K mg) : PromG P w K mg base 10 "_law_told_of" s_L_told_of ["_law_track_here", "_law_lengths_here"] (spToldOf K) := by
  refine PromG.of T.d_L_told_of sc_L_told_of (fun vs H Q E h => ?_) (fun _ _ _ _ _ _ us hl => match us, hl with | [_, _], _ => rfl) (fun f cdv A outer s H vs Q E hr hgd h => ?_)
  · obtain ⟨r, l, b, ss, ns, rfl, _⟩ := h
    rfl
  · obtain ⟨r, l, b, ss, ns, rfl, hR, hlen, hl, nl, hn, k⟩ := h
    refine ⟨_, (pss_cons (ps_set (i := 2) sc_L_told_of.nd rfl (Or.inl rfl) (pe_lst (pa_cons (pe_methP0 (ok_Road_greatest T) (hr.mono (by decide)) pass0 (pv 0)) (pa_cons (pe_methP0 (ok_Road_stopper T) (hr.mono (by decide)) pass0 (pv 0)) (pa_cons (pe_methP0 (ok_Road_idle T) (hr.mono (by decide)) pass0 (pv 0)) (pa_cons (pe_callB (cr_lenO (ok_Road___len__ T) (hr.mono (by decide)) pass0) (by rfl) T.b_len (by decide +kernel) (pa_cons (pv 0) pa_nil)) (pa_cons (pe_callTy (cr_strO (ok_Stack___str__ T) (hr.mono (by decide)) pass0) (by rfl) T.b_str (by decide +kernel) (pa_cons (pe_fld (pv 0) rfl) pa_nil)) pa_nil)))))))
      (pss_one (ps_ret (pe_callB (cr_reprD hgd hr.units) (by rfl) T.b_repr (by decide +kernel) (pa_cons (pe_op op_cat (pv 2) (pe_lc (own := [("_law_n", 3)]) (g := (gName 3)) (tt := tYes) (by rfl) sc_L_told_of.nd (pi_list (pv 1)) (blkOk_by (own := [("_law_n", 3)]) (N := ["_law_track_here", "_law_lengths_here", "_law_told", "_law_n"]) (sc := defScope s_L_told_of) (by decide +kernel)) (fun _ _ _ _ _ => (pg_name (i := 3) sc_L_told_of.nd rfl (Or.inl rfl))) (fun _ _ _ _ _ => pts_nil) (fun _ _ _ _ _ => (pe_lst (pa_cons (show PE _ _ (tMeth (He.ga K "Road") "sizes" _ [] _ _ _) from (pe_methP (ok_Road_sizes T) (hr.mono (by decide)) pass0 (pv 0) (pa_cons (pv 3) pa_nil))) (pa_cons (show PE _ _ (tMeth (He.ga K "Road") "fits" _ [] _ _ _) from (pe_methP (ok_Road_fits T) (hr.mono (by decide)) pass0 (pv 0) (pa_cons (pv 3) pa_nil))) pa_nil)))))) pa_nil))))), ?_⟩
    obtain ⟨dx, t, q, xs, h1, h2, h3, h4⟩ := id hR.at_
    have so := hR.rb.stk hR.b0 hR.b1
    refine ⟨_, rfl, r, dx, _, rfl, h1, rfl, r, ss, b, rfl, hR, fun H1 ag s1 => ?_⟩
    refine ⟨_, rfl, r, dx, _, rfl, s1 _ _ h1, rfl, r, ss, b, rfl, hR.same s1, fun v H2 _ pl s2 => ?_⟩
    have s12 := s1.trans s2
    refine ⟨_, rfl, r, dx, _, rfl, s12 _ _ h1, rfl, r, ss, b, rfl, hR.same s12, fun qi H3 nq _ s3 hqi => ?_⟩
    have s13 := s12.trans s3
    refine ⟨_, rfl, r, dx, _, rfl, s13 _ _ h1, r, b, ss, rfl, hR.same s13, _, rfl, Int.natCast_nonneg _, (by omega), ?_⟩
    obtain ⟨dq, tq, zq, w1, w2, w3⟩ := id h4
    refine ⟨_, rfl, r, _, dx, _, _, rfl, s13 _ _ h1, T.cl_Road, T.na_Road_stack, rfl, ?_⟩
    refine ⟨q, dq, _, rfl, s13 _ _ w1, q, b, onL ss, rfl, h4.same s13, so, fun H4 s4 => ⟨stkText b (onL ss), rfl, ?_⟩⟩
    have s14 := s13.trans s4
    refine ⟨(by show 5 ≤ sizeLine; decide), fun lt hlt => gn ?_⟩
    have gq := s4 _ _ hqi
    have s15 := s14.trans (up (o := .lst [grV b ss, v, .ref qi, .int (ss.length : Nat), .str (stkText b (onL ss))]) hlt)
    have gq := up (o := .lst [grV b ss, v, .ref qi, .int (ss.length : Nat), .str (stkText b (onL ss))]) hlt _ _ gq
    have gl := upd_same (H := H4) (a := lt) (o := .lst [grV b ss, v, .ref qi, .int (ss.length : Nat), .str (stkText b (onL ss))])
    refine hp_any (fun G => Same H G ∧ G lt = some (.lst [grV b ss, v, .ref qi, .int (ss.length : Nat), .str (stkText b (onL ss))]) ∧ G qi = some (.tup ((idleL b ss).map V.int))) ⟨s15, gl, gq⟩ (fun G ⟨sG, gl2, gq2⟩ => ?_)
    clear gl gq s15 s14 s13 s12
    refine ⟨_, rfl, _, rfl, l, rfl, ⟨_, SqL.of (sG _ _ hl)⟩, fun D hD => ?_⟩
    refine lc_list (K := K) (a := l) (xs := ns.map V.int) (Pv := fun k G' => Same G G' ∧ ∃ vs, G' D = some (.lst vs) ∧ ItemsAt G' b ss vs (ns.take k)) ⟨up hD, [], upd_same, .nil⟩ (fun k G' _ h => SqL.of (h.1 _ _ (sG _ _ hl))) ?_ ?_
    · rintro k x G' hx ⟨hs, vs, hv, hi⟩
      obtain ⟨n, hnk, rfl⟩ : ∃ n, ns[k]? = some n ∧ x = V.int n := by
        rw [List.getElem?_map] at hx
        cases e : ns[k]? with
        | none => rw [e] at hx; cases hx
        | some n => rw [e] at hx; exact ⟨n, rfl, (Option.some.inj hx).symm⟩
      have nb := hn n (List.mem_of_getElem? hnk)
      have sx := sG.trans hs
      refine ⟨rfl, _, rfl, r, dx, _, rfl, sx _ _ h1, rfl, _, rfl, r, ss, n, b, rfl, hR.same sx, nb.1, nb.2, fun q1 F1 nq1 s1 hq1 => ?_⟩
      refine ⟨_, rfl, r, dx, _, rfl, (sx.trans s1) _ _ h1, rfl, _, rfl, r, ss, n, b, rfl, hR.same (sx.trans s1), nb.1, nb.2, fun bb F2 hb s2 => ⟨(by show 2 ≤ sizeLine; decide), fun p2 hp2 => ?_⟩⟩
      have s3 := (s1.trans s2).trans (up (o := .lst [V.ref q1, V.bl bb]) hp2)
      have hv3 := s3 _ _ hv
      have hi3 := hi.same s3
      have g1 := upd_same (H := F2) (a := p2) (o := .lst [V.ref q1, V.bl bb])
      have g2 := up (o := .lst [V.ref q1, V.bl bb]) hp2 _ _ (s2 _ _ hq1)
      have nD : p2 ≠ D := fun z => by rw [z, (s1.trans s2) _ _ hv] at hp2; cases hp2
      have nD2 : q1 ≠ D := fun z => by
        have a := (s1.trans s2) _ _ hv
        have c := s2 _ _ hq1
        rw [z, a] at c
        cases c
      have vl := hi.len
      refine ⟨vs, hv3, ?_, fun y o e => ?_, vs ++ [.ref p2], upd_same, ?_⟩
      · rw [vl, List.length_take, sizeLine_eq]
        omega
      · rw [upd_ne (ne_of_none e hD)]
        exact s3 _ _ (hs _ _ e)
      · have et : ns.take (k + 1) = ns.take k ++ [n] := by
          rw [List.take_succ, hnk]
          rfl
        rw [et]
        exact (hi3.put hv3 hi.refs).snoc (by rw [upd_ne nD]; exact g1) (by rw [upd_ne nD2]; exact g2) hb
    rintro G3 ⟨s3, vs, hv, hi⟩
    rw [List.length_map, List.take_length] at hi
    have vl := hi.len
    refine ⟨lt, D, _, _, rfl, rfl, s3 _ _ gl2, hv, (by rw [sizeLine_eq]; show 5 + vs.length ≤ _; omega), fun z hz => ?_⟩
    have sz := up (o := .lst ([grV b ss, v, .ref qi, .int (ss.length : Nat), .str (stkText b (onL ss))] ++ vs)) hz
    refine ⟨z, toldD b ss ns v, rfl, .lst (SqL.of upd_same) (DpAll.app (.cons (gr_opt ag).dp (.cons (pl_opt pl hR.len).dp (.cons (.tup (SqT.of (sz _ _ (s3 _ _ gq2))) (dp_intsA _)) (.cons (.int _) (.cons (.str _) .nil))))) (hi.same sz).dp), ?_⟩
    have sh := told_sh ag pl so hR.rb hR.b0 hR.b1 hlen nl hn
    exact ⟨sh.sho, sh.nod, Nat.le_trans sh.dep (by decide), Nat.le_trans sh.len (by decide), k v _ pl ((sG.trans s3).trans sz)⟩
end
/-! ### a move as a deed; turns -/
def spDeedOf (K : PySem.W.Frag) : Sp := fun vs H Q _ => ∃ (m : Addr) (s : Stp), vs = [.ref m] ∧ MoveAt H m s ∧ (∀ a, s = .push a → a.ok) ∧ ∀ t H', H t = none → Same H H' → StepAt K H' t s → Q (.ref t) H'
section
variable {P : Program} {w : World} {K : PySem.W.Frag} {mg : Str → Option Value} {base : Heap}
theorem ok_L_deed (T : Tx w K mg) : Prom P w K mg base CX0 7 "_law_deed" s_L_deed ["_law_move_here"] (spDeedOf K) := by
  refine Prom.of T.d_L_deed sc_L_deed (fun vs H Q E h => ?_) (fun _ _ _ _ _ _ us hl => match us, hl with | [_], _ => rfl) (fun f cdv A outer s H vs Q E hr h => ?_)
  · obtain ⟨m, s, rfl, _⟩ := h
    rfl
  · obtain ⟨m, st, rfl, mv, ok, k⟩ := h
    refine ⟨_, (pss_one (ps_ret (pe_ifExp (pt_cmpR op_eq (pe_ix ix_tup (pv 0) pe_int (fun _ _ => rfl)) pe_str (nomark _)) (pe_tup (pa_cons pe_str (pa_cons (pe_callP (ok_L_made T) (hr.mono (by decide)) (by rfl) pass0 (pa_cons (pe_ix ix_tup (pv 0) pe_int (fun _ _ => rfl)) pa_nil)) pa_nil))) (pe_callTy call_tuple_of (by rfl) T.b_tuple (by decide +kernel) (pa_cons (pe_lc (own := [("_law_part_here", 1)]) (g := (gName 1)) (tt := tYes) (by rfl) sc_L_deed.nd (pi_tup (pv 0)) (blkOk_by (own := [("_law_part_here", 1)]) (N := ["_law_move_here", "_law_part_here"]) (sc := defScope s_L_deed) (by decide +kernel)) (fun _ _ _ _ _ => (pg_name (i := 1) sc_L_deed.nd rfl (Or.inl rfl))) (fun _ _ _ _ _ => pts_nil) (fun _ _ _ _ _ => (pv 1))) pa_nil))))), ?_⟩
    have copy : ∀ ys : List V, ys.length ≤ 5 → H m = some (.tup ys) → (∀ t H', H t = none → Same H H' → H' t = some (.tup ys) → Q (.ref t) H') → tCB (fun xs H_1 Q => ∃ p ys, xs = [V.ref p] ∧ ((SqL K H_1 p ys ∧ ∀ (l : Addr), H_1 l = none → Q (V.ref l) (upd H_1 l (HO.tup ys))) ∨ SqT K H_1 p ys ∧ Q (V.ref p) H_1)) (tCons (tLc (iTup K (tVar 0)) (gName 1) tYes (tVar 1) (List.map (fun x => x.snd) [(("_law_part_here" : Str), 1)])) tNil) [some (.ref m), none] H Q := fun ys yl g1 kk => by
      refine ⟨_, rfl, m, rfl, ⟨ys, SqT.of g1⟩, fun D hD => ?_⟩
      refine lc_tup (K := K) (a := m) (xs := ys) (Pv := fun j H' => Same H H' ∧ H' D = some (.lst (ys.take j))) ⟨up hD, upd_same⟩ (fun j H' _ h => SqT.of (h.1 _ _ g1)) ?_ ?_
      · rintro i x G hi ⟨hs, hd⟩
        have il := (List.getElem?_eq_some_iff.mp hi).1
        refine ⟨rfl, _, rfl, _, hd, Nat.lt_of_lt_of_le (m := 10) (by rw [List.length_take]; omega) (by decide), fun c o e => ?_, ?_⟩
        · rw [upd_ne (ne_of_none e hD)]
          exact hs _ _ e
        · rw [upd_same, List.take_succ, hi]
          rfl
      · rintro G ⟨hs, hd⟩
        rw [List.take_length] at hd
        exact ⟨D, ys, rfl, .inl ⟨SqL.of hd, fun l hl => kk l _ (same_before hs hl) (hs.trans (up hl)) upd_same⟩⟩
    cases st with
    | push a =>
      obtain ⟨u, g1, g2⟩ := mv
      refine ⟨_, rfl, m, _, _, _, rfl, rfl, SqT.of g1, rfl, rfl, _, rfl, ifd_pos rfl ?_⟩
      refine ⟨_, rfl, m, _, _, _, rfl, rfl, SqT.of g1, rfl, u, a, rfl, g2, ok a rfl, fun y H1 ny s1 wy => ⟨(by show 2 ≤ sizeLine; decide), fun t ht => ?_⟩⟩
      exact k t _ (same_before s1 ht) (s1.trans (up ht)) ⟨y, upd_same, wy.same (up ht)⟩
    | pop =>
      have g1 : H m = _ := mv
      refine ⟨_, rfl, m, _, _, _, rfl, rfl, SqT.of g1, rfl, rfl, _, rfl, ifs_neg (show ("pop" : Str) ≠ "push" by decide) ?_⟩
      exact copy _ (by decide) g1 fun t H' nt s ht => k t H' nt s ht
    | bound n =>
      have g1 : H m = _ := mv
      refine ⟨_, rfl, m, _, _, _, rfl, rfl, SqT.of g1, rfl, rfl, _, rfl, ifs_neg (show ("bound" : Str) ≠ "push" by decide) ?_⟩
      exact copy _ (by show 2 ≤ 5; decide) g1 fun t H' nt s ht => k t H' nt s ht
end
/-! ### roads made otherwise -/
section
variable {P : Program} {w : World} {K : PySem.W.Frag} {mg : Str → Option Value} {base : Heap}
theorem ok_L_taken_back (T : Tx w K mg) : Prom P w K mg base CX0 10 "_law_taken_back" s_L_taken_back ["_law_moves_here", "_law_b"] (spTrack K) := by
  refine Prom.of T.d_L_taken_back sc_L_taken_back (fun vs H Q E h => ?_) (fun _ _ _ _ _ _ us hl => match us, hl with | [_, _], _ => rfl) (fun f cdv A outer s H vs Q E hr h => ?_)
  · obtain ⟨l, xs, ss, b, rfl, _⟩ := h
    rfl
  · obtain ⟨l, xs, ss, b, rfl, hl, hm, rb, len, b0, b1, k⟩ := h
    refine ⟨_, (pss_cons (ps_set (i := 2) sc_L_taken_back.nd rfl (Or.inl rfl) (pe_newP (ok_Road T) (hr.mono (by decide)) (by rfl) pass0 (pa_cons (pv 1) pa_nil)))
      (pss_cons (ps_expr (pe_methP (ok_Road_push T) (hr.mono (by decide)) pass0 (pv 2) (pa_cons (pe_newP (ok_Wrap T) (hr.mono (by decide)) (by rfl) pass0 (pa_cons pe_str (pa_cons pe_int pa_nil))) pa_nil)))
      (pss_cons (ps_expr (pe_methP (ok_Road_bound T) (hr.mono (by decide)) pass0 (pv 2) (pa_cons pe_int pa_nil)))
      (pss_cons (ps_expr (pe_methP0 (ok_Road_undo T) (hr.mono (by decide)) pass0 (pv 2)))
      (pss_cons (ps_expr (pe_methP0 (ok_Road_undo T) (hr.mono (by decide)) pass0 (pv 2)))
      (pss_cons (ps_for PassesOwn.never (by rfl) (pi_list (pv 0)) (pg_name (i := 3) sc_L_taken_back.nd rfl (Or.inl rfl)) (pss_cons (ps_expr (pe_methP (ok_Road_bound T) (hr.mono (by decide)) pass0 (pv 2) (pa_cons pe_int pa_nil)))
      (pss_cons (ps_expr (pe_methP0 (ok_Road_undo T) (hr.mono (by decide)) pass0 (pv 2)))
      (pss_one (ps_expr (pe_callP (ok_L_go T) (hr.mono (by decide)) (by rfl) pass0 (pa_cons (pv 2) (pa_cons (pv 3) pa_nil))))))))
      (pss_one (ps_ret (pv 2))))))))), ?_⟩
    refine ⟨_, rfl, b, rfl, b0, b1, fun r H1 nr s1 hR => ?_⟩
    refine gn ?_
    refine st_eq [some (.ref l), some (.int b), some (.ref r), none] rfl ?_
    obtain ⟨d1, _, _, _, e1, _⟩ := id hR.at_
    refine ⟨_, rfl, r, d1, _, rfl, e1, rfl, .told 7, rfl, ⟨by decide, by decide⟩, fun wq H2 nw s2 hW => ?_⟩
    refine ⟨r, wq, b, [], .told 7, rfl, hR.same s2, (by decide), hW, ⟨b0, b1, fun a ha => ?_, (by decide), (by decide)⟩, fun H3 k3 hR3 => ?_⟩
    · rw [List.mem_singleton.mp (show a ∈ [Wr.told 7] from ha)]
      exact ⟨by decide, by decide⟩
    obtain ⟨d3, _, _, _, e3, _⟩ := id hR3.at_
    refine ⟨_, rfl, r, d3, _, rfl, e3, rfl, r, b, 5, _, rfl, hR3, (by decide), by decide, by decide, fun H4 k4 hR4 => ?_⟩
    obtain ⟨d4, _, _, _, e4, _⟩ := id hR4.at_
    refine ⟨_, rfl, r, d4, _, rfl, e4, rfl, r, b, _, _, rfl, hR4, fun H5 k5 hR5 => ?_⟩
    obtain ⟨d5, _, _, _, e5, _⟩ := id hR5.at_
    refine ⟨_, rfl, r, d5, _, rfl, e5, rfl, r, b, [], _, rfl, hR5, fun H6 k6 hR6 => ?_⟩
    have s6 : Same H H6 := sm_kp (sm_kp (sm_kp (sm_kp (s1.trans s2) k3 nr) k4 nr) k5 nr) k6 nr
    refine ⟨_, rfl, l, rfl, ⟨_, SqL.of (s6 _ _ hl)⟩, for_list (K := K) (a := l) (xs := xs) (fun i σ H' => Same H H' ∧ RoadAt K H' r b (ss.take i) ∧ ∃ v, σ = [some (.ref l), some (.int b), some (.ref r), v]) ⟨s6, hR6, none, rfl⟩ (fun i σ H' _ h => SqL.of (h.1 _ _ hl)) ?_ ?_⟩
    · rintro i x σ H' hi ⟨hs, hR, v, rfl⟩
      obtain ⟨q, st, rfl, hq, mv⟩ := hm.get hi
      have et : ss.take (i + 1) = ss.take i ++ [st] := by
        rw [List.take_succ, hq]
        rfl
      have lt : (ss.take i).length < 900 := by rw [List.length_take]; omega
      refine gn ?_
      refine st_eq [some (.ref l), some (.int b), some (.ref r), some (.ref q)] rfl ?_
      obtain ⟨d1, _, _, _, e1, _⟩ := id hR.at_
      refine ⟨_, rfl, r, d1, _, rfl, e1, rfl, r, b, 0, _, rfl, hR, (by omega), by decide, by decide, fun G1 k1 hR1 => ?_⟩
      obtain ⟨d2, _, _, _, e2, _⟩ := id hR1.at_
      refine ⟨_, rfl, r, d2, _, rfl, e2, rfl, r, b, _, _, rfl, hR1, fun G2 k2 hR2 => ?_⟩
      have hs2 := sm_kp (sm_kp hs k1 nr) k2 nr
      refine ⟨_, rfl, _, rfl, r, q, b, ss.take i, st, rfl, hR2, (by omega), mv.same hs2, rb.at_ hq, fun G3 kp hR3 => ?_⟩
      rw [← et] at hR3
      exact ⟨sm_kp hs2 kp nr, hR3, _, rfl⟩
    · rintro σ H' ⟨hs, hR, v, rfl⟩
      rw [hm.len, List.take_length] at hR
      exact ⟨_, rfl, k r H' nr hs hR⟩
end
def spTrackS (K : PySem.W.Frag) : Sp := fun vs H Q _ => ∃ (l : Addr) (xs : List V) (ss : List Stp) (b : Int), vs = [.ref l, .int b] ∧ H l = some (.lst xs) ∧ MovesAt H xs ss ∧ RoadB b ss ∧ ss.length < 11 ∧ 2 ≤ b ∧ b ≤ 256 ∧ ∀ r H', H r = none → Same H H' → RoadAt K H' r b ss → Q (.ref r) H'
theorem rg2 : ∀ m : Nat, m < 11 → RgC 0 ((m : Int) - 1) 2 (m / 2) := by
  unfold RgC
  decide
theorem push_ok {b : Int} {ss : List Stp} {i : Nat} {s : Stp} (rb : RoadB b ss) (h : ss[i]? = some s) : ∀ a, s = .push a → a.ok := fun a e => by
  subst e
  have : StkOk b (onL (ss.take i) ++ [a]) := rb.at_ h
  exact this.ok a (by simp)
section
variable {P : Program} {w : World} {K : PySem.W.Frag} {mg : Str → Option Value} {base : Heap}
theorem ok_L_at_once (T : Tx w K mg) : Prom P w K mg base CX0 11 "_law_at_once" s_L_at_once ["_law_moves_here", "_law_b"] (spTrackS K) := by
  refine Prom.of T.d_L_at_once sc_L_at_once (fun vs H Q E h => ?_) (fun _ _ _ _ _ _ us hl => match us, hl with | [_, _], _ => rfl) (fun f cdv A outer s H vs Q E hr h => ?_)
  · obtain ⟨l, xs, ss, b, rfl, _⟩ := h
    rfl
  · obtain ⟨l, xs, ss, b, rfl, hl, hm, rb, len, b0, b1, k⟩ := h
    refine ⟨_, (pss_cons (ps_set (i := 2) sc_L_at_once.nd rfl (Or.inl rfl) (pe_newP (ok_Road T) (hr.mono (by decide)) (by rfl) pass0 (pa_cons (pv 1) pa_nil)))
      (pss_cons (ps_for PassesOwn.never (by rfl) (pi_range3 (by rfl) T.b_range (pa_cons pe_int (pa_cons (pe_op op_sub (pe_callB call_len_seq (by rfl) T.b_len (by decide +kernel) (pa_cons (pv 0) pa_nil)) pe_int) (pa_cons pe_int pa_nil)))) (pg_name (i := 3) sc_L_at_once.nd rfl (Or.inl rfl)) (pss_one (ps_expr (pe_methR (ok_Road_do_all T) (hr.mono (by decide)) pass0 (pv 2) (pa_cons (pe_callP (ok_L_deed T) (hr.mono (by decide)) (by rfl) pass0 (pa_cons (pe_ix ix_list (pv 0) (pv 3) (fun _ _ => rfl)) pa_nil)) (pa_cons (pe_callP (ok_L_deed T) (hr.mono (by decide)) (by rfl) pass0 (pa_cons (pe_ix ix_list (pv 0) (pe_op op_add (pv 3) pe_int) (fun _ _ => rfl)) pa_nil)) pa_nil))))))
      (pss_cons (ps_if (pt_cmp (pc_eqI (pe_op op_mod (pe_callTy call_int1 (by rfl) T.b_int (by decide +kernel) (pa_cons (pe_callB call_len_seq (by rfl) T.b_len (by decide +kernel) (pa_cons (pv 0) pa_nil)) pa_nil)) pe_int) pe_int)) (pss_one (ps_expr (pe_methR (ok_Road_do_all T) (hr.mono (by decide)) pass0 (pv 2) (pa_cons (pe_callP (ok_L_deed T) (hr.mono (by decide)) (by rfl) pass0 (pa_cons (pe_ix ix_list (pv 0) (pe_un un_neg pe_int) (fun _ _ => rfl)) pa_nil)) pa_nil)))) pss_nil)
      (pss_one (ps_ret (pv 2)))))), ?_⟩
    refine ⟨_, rfl, b, rfl, b0, b1, fun r H1 nr s1 hR => gn ?_⟩
    refine st_eq [some (.ref l), some (.int b), some (.ref r), none] rfl ?_
    have hxl := hm.len
    refine ⟨_, rfl, l, xs, rfl, .inl (SqL.of (s1 _ _ hl)), _, _, rfl, rfl, 0, _, 2, ss.length / 2, rfl, ?_, for_rangeC (lo := 0) (c := 2) (n := ss.length / 2) (fun i σ H' => Same H H' ∧ RoadAt K H' r b (ss.take (2 * i)) ∧ ∃ v, σ = [some (.ref l), some (.int b), some (.ref r), v]) ⟨s1, hR, none, rfl⟩ ?_ ?_⟩
    · rw [hxl]
      exact rg2 _ len
    · rintro i σ H' hi ⟨hs, hR, v, rfl⟩
      refine gn ?_
      refine st_eq [some (.ref l), some (.int b), some (.ref r), some (.int (0 + (i : Int) * 2))] rfl ?_
      obtain ⟨st1, hs1⟩ : ∃ st, ss[2 * i]? = some st := ⟨_, List.getElem?_eq_getElem (by omega)⟩
      obtain ⟨st2, hs2⟩ : ∃ st, ss[2 * i + 1]? = some st := ⟨_, List.getElem?_eq_getElem (by omega)⟩
      obtain ⟨q1, hq1, mv1⟩ := hm.at_ hs1
      obtain ⟨q2, hq2, mv2⟩ := hm.at_ hs2
      obtain ⟨d1, _, _, _, e1, _⟩ := id hR.at_
      have et : ss.take (2 * (i + 1)) = ss.take (2 * i) ++ [st1, st2] := by
        rw [show 2 * (i + 1) = 2 * i + 1 + 1 by omega, List.take_succ, List.take_succ, hs1, hs2]
        simp
      refine ⟨_, rfl, r, d1, _, rfl, e1, rfl, _, rfl, _, rfl, l, xs, _, _, rfl, rfl, SqL.of (hs _ _ hl), at_of (j := 2 * i) (by omega) hq1, q1, st1, rfl, mv1.same hs, push_ok rb hs1, fun t1 G1 nt1 s1 ht1 => ?_⟩
      have hs3 := hs.trans s1
      refine ⟨_, rfl, _, rfl, _, _, rfl, rfl, l, xs, _, _, rfl, rfl, SqL.of (hs3 _ _ hl), at_of (j := 2 * i + 1) (by omega) hq2, q2, st2, rfl, mv2.same hs3, push_ok rb hs2, fun t2 G2 nt2 s2 ht2 => ?_⟩
      have hs4 := hs3.trans s2
      refine ⟨.ref r, [.ref t1, .ref t2], rfl, (by show 2 ≤ sizeLine; decide), fun p hp => ?_⟩
      have s3 := s2.trans (up (o := .tup [V.ref t1, V.ref t2]) hp)
      have rb2 : RoadB b (ss.take (2 * i) ++ [st1, st2]) := et ▸ rb.take _
      refine ⟨r, p, b, _, [st1, st2], _, rfl, upd_same, .cons (ht1.keeps (.same s3)) (.cons (ht2.keeps (.same (up hp))) .nil), hR.same (s1.trans s3), rb2, (by rw [List.length_take]; show _ + 2 ≤ 1000; omega), fun H2 kr hR2 => ?_⟩
      rw [← et] at hR2
      exact ⟨sm_kp (hs.trans (s1.trans s3)) kr nr, hR2, _, rfl⟩
    · rintro σ H' ⟨hs, hR, v, rfl⟩
      refine ⟨_, rfl, l, xs, rfl, .inl (SqL.of (hs _ _ hl)), .inl ⟨_, rfl, _, _, rfl, rfl, (show (0 : Int) < 2 by decide), _, _, rfl, rfl, _, rfl, ifd (fun c => ?_) (fun c => ?_)⟩⟩
      · have c : (xs.length : Int) % 2 = 1 := c
        have n0 : 0 < ss.length := by omega
        have e2 : 2 * (ss.length / 2) = ss.length - 1 := by omega
        rw [e2] at hR
        obtain ⟨st, hst⟩ : ∃ st, ss[ss.length - 1]? = some st := ⟨_, List.getElem?_eq_getElem (by omega)⟩
        obtain ⟨q1, hq1, mv1⟩ := hm.at_ hst
        obtain ⟨d1, _, _, _, e1, _⟩ := id hR.at_
        have hx : xs ≠ [] := fun z => by rw [z] at hxl; simp at hxl; omega
        have ex : xs = xs.dropLast ++ [V.ref q1] := by
          have e := List.dropLast_concat_getLast hx
          rw [← hxl, ← List.getLast?_eq_getElem?, List.getLast?_eq_some_getLast hx] at hq1
          rw [← Option.some.inj hq1]
          exact e.symm
        have hl2 := hs _ _ hl
        rw [ex] at hl2
        have et : ss.take (ss.length - 1) ++ [st] = ss := by
          have := List.take_succ (l := ss) (i := ss.length - 1)
          rw [show ss.length - 1 + 1 = ss.length by omega, List.take_length, hst] at this
          exact this.symm
        refine ⟨_, rfl, r, d1, _, rfl, e1, rfl, _, rfl, _, rfl, l, _, _, _, rfl, rfl, SqL.of hl2, atI_last1, q1, st, rfl, mv1.same hs, push_ok rb hst, fun t1 G1 nt1 s1 ht1 => ?_⟩
        refine ⟨.ref r, [.ref t1], rfl, (by show 1 ≤ sizeLine; decide), fun p hp => ?_⟩
        have s3 := s1.trans (up (o := .tup [V.ref t1]) hp)
        have rb2 : RoadB b (ss.take (ss.length - 1) ++ [st]) := by rw [et]; exact rb
        refine ⟨r, p, b, _, [st], _, rfl, upd_same, .cons (ht1.keeps (.same (up hp))) .nil, hR.same s3, rb2, (by rw [List.length_take]; show _ + 1 ≤ 1000; omega), fun H2 kr hR2 => ?_⟩
        rw [et] at hR2
        exact ⟨_, rfl, k r H2 nr (sm_kp (hs.trans s3) kr nr) hR2⟩
      · have c : ¬ (xs.length : Int) % 2 = 1 := c
        have e2 : 2 * (ss.length / 2) = ss.length := by omega
        rw [e2, List.take_length] at hR
        exact ⟨_, rfl, k r H' nr hs hR⟩
end
/-! ### an attempt: a def made here -/
abbrev stAct : Stmt := (defBody s_L_tried)[1]!
theorem ns_act : NdefX.NScope ["_law_shown", "_law_lengths_here", "_law_moves_here", "_law_track_here", "_law_move_here"] ["_law_shown"] ["_law_lengths_here", "_law_moves_here", "_law_track_here"] (C8.fnScope stAct) := NdefX.nscope_by (by decide +kernel)
def spAct (K : PySem.W.Frag) (ws : List (Option V)) : Sp := fun vs H Q _ => ∃ (r ln lm : Addr) (b : Int) (ss : List Stp) (ns : List Int) (xs : List V), vs = [.ref r] ∧ ws = [some (.ref ln), some (.ref lm), some (.ref r)] ∧ RoadAt K H r b [] ∧ H lm = some (.lst xs) ∧ MovesAt H xs ss ∧ RoadB b ss ∧ ss.length < 11 ∧ H ln = some (.lst (ns.map V.int)) ∧ ns.length ≤ 3 ∧ (∀ n ∈ ns, 0 ≤ n ∧ n ≤ 10 ^ 60 - 1) ∧
  ∀ v H', IsPl b ss v → Kp r H H' → RoadAt K H' r b ss → Q (.str (toldD b ss ns v).shown) H'
section
variable {P : Program} {w : World} {K : PySem.W.Frag} {mg : Str → Option Value} {base : Heap}
theorem nok_act (T : Tx w K mg) {g : Addr} {q : Str} {cl : List (Str × Addr)} {c : Addr} : NOkG P w K mg base 11 g (NdefX.NF.of stAct "_law_act" q cl c) ["_law_shown"] ["_law_lengths_here", "_law_moves_here", "_law_track_here"] (spAct K) := by
  refine nokG_of ns_act (fun doc pm ctv us hl => match us, hl with | [_], _ => rfl) (fun ws vs H Q E h => ?_) (fun A outer s H vs ws Q E hr hgd hf hc hws h => ?_)
  · obtain ⟨r, ln, lm, b, ss, ns, xs, rfl, _⟩ := h
    rfl
  · obtain ⟨r, ln, lm, b, ss, ns, xs, rfl, rfl, hR, hlm, hm, rb, len, hln, nl, hn, k⟩ := h
    refine ⟨_, (pss_cons (ps_for PassesOwn.never (by rfl) (pi_list (pe_var (i := 2) rfl (.inr (.inr rfl)))) (pg_name (i := 4) ns_act.nd rfl (Or.inl rfl)) (pss_one (ps_expr (pe_callP (ok_L_go T) (hr.mono (by decide)) (by rfl) pass0 (pa_cons (pe_var (i := 3) rfl (.inr (.inr rfl))) (pa_cons (pe_var (i := 4) rfl (.inl rfl)) pa_nil))))))
      (pss_one (ps_ret (pe_callG (ok_L_told_of T) hgd (hr.mono (by decide)) (by rfl) (pa_cons (pe_var (i := 0) rfl (.inl rfl)) (pa_cons (pe_var (i := 1) rfl (.inr (.inr rfl))) pa_nil)))))), ?_⟩
    obtain ⟨dx, t, q0, zs, h1, _⟩ := id hR.at_
    have nlm : lm ≠ r := fun z => by rw [z, h1] at hlm; cases hlm
    have nln : ln ≠ r := fun z => by rw [z, h1] at hln; cases hln
    refine ⟨_, rfl, lm, rfl, ⟨_, SqL.of hlm⟩, for_list (K := K) (a := lm) (xs := xs) (fun i σ H' => Kp r H H' ∧ RoadAt K H' r b (ss.take i) ∧ ∃ v, σ = [some (.ref r), some (.ref ln), some (.ref lm), some (.ref r), v]) ⟨Kp.refl r H, hR, none, rfl⟩ (fun i σ H' _ h => SqL.of (h.1 _ _ nlm hlm)) ?_ ?_⟩
    · rintro i x σ H' hi ⟨hs, hR, v, rfl⟩
      obtain ⟨q, st, rfl, hq, mv⟩ := hm.get hi
      have et : ss.take (i + 1) = ss.take i ++ [st] := by
        rw [List.take_succ, hq]
        rfl
      have mv2 : MoveAt H' q st := mv.kp (K := K) h1 hs
      refine ⟨_, rfl, _, rfl, r, q, b, ss.take i, st, rfl, hR, by rw [List.length_take]; omega, mv2, rb.at_ hq, fun H2 kp hR2 => ?_⟩
      rw [← et] at hR2
      exact ⟨hs.trans kp, hR2, _, rfl⟩
    · rintro σ H' ⟨hs, hR, v, rfl⟩
      rw [hm.len, List.take_length] at hR
      exact ⟨_, rfl, _, rfl, r, ln, b, ss, ns, rfl, hR, by omega, hs _ _ nln hln, nl, hn, fun v H2 pl s2 => k v H2 pl (fun z o n e => s2 _ _ (hs z o n e)) (hR.same s2)⟩
end
/-! ### plain law: bounds' places when steps are put in -/
noncomputable def atF (b : Int) (ws : List Wr) (i : Nat) : Stp → List (Int × Int)
  | .bound m => [((i : Int), gwI b ws m)]
  | .push _ => []
  | .pop => []
noncomputable def reachF (b : Int) : List Wr → Nat → List Stp → List (Int × Int)
  | _, _, [] => []
  | ws, i, s :: r => atF b ws i s ++ reachF b (stepOn ws s) (i + 1) r
theorem reachF_app (b : Int) : ∀ (A B : List Stp) (ws : List Wr) (i : Nat), reachF b ws i (A ++ B) = reachF b ws i A ++ reachF b (A.foldl stepOn ws) (i + A.length) B
  | [], _, _, _ => rfl
  | s :: A, B, ws, i => by
    show atF b ws i s ++ reachF b (stepOn ws s) (i + 1) (A ++ B) = (atF b ws i s ++ reachF b (stepOn ws s) (i + 1) A) ++ reachF b (A.foldl stepOn (stepOn ws s)) (i + (A.length + 1)) B
    rw [reachF_app b A B, List.append_assoc, show i + 1 + A.length = i + (A.length + 1) by omega]
theorem reachL_F (b : Int) (ss : List Stp) : reachL b ss ss.length = reachF b [] 0 ss := by
  have key : ∀ k : Nat, k ≤ ss.length → reachL b ss k = reachF b [] 0 (ss.take k) := fun k => by
    induction k with
    | zero => intro _; rfl
    | succ k ih =>
      intro hk
      obtain ⟨s, hs⟩ : ∃ s, ss[k]? = some s := ⟨_, List.getElem?_eq_getElem (by omega)⟩
      have e : ss.take (k + 1) = ss.take k ++ [s] := by
        rw [List.take_succ, hs]
        rfl
      rw [reachL_succ, ih (by omega), e, reachF_app]
      have el : (ss.take k).length = k := by rw [List.length_take]; omega
      rw [el]
      unfold reachAt
      rw [hs]
      cases s with
      | push a => rfl
      | pop => rfl
      | bound m =>
        show _ ++ [((k : Int), gwI b (onL (ss.take k)) m)] = _ ++ ([(((0 + k : Nat) : Int), gwI b (onL (ss.take k)) m)] ++ [])
        rw [Nat.zero_add]
        rfl
  rw [key ss.length (Nat.le_refl _), List.take_length]
def mvF (f : Int → Int) (z : Int × Int) : Int × Int := (f z.1, z.2)
theorem reachF_shift (b : Int) (d : Nat) : ∀ (A : List Stp) (ws : List Wr) (i : Nat), reachF b ws (i + d) A = (reachF b ws i A).map (mvF fun x => x + (d : Int))
  | [], _, _ => rfl
  | s :: A, ws, i => by
    show atF b ws (i + d) s ++ reachF b (stepOn ws s) (i + d + 1) A = (atF b ws i s ++ reachF b (stepOn ws s) (i + 1) A).map _
    rw [List.map_append, ← reachF_shift b d A (stepOn ws s) (i + 1), show i + 1 + d = i + d + 1 by omega]
    congr 1
    cases s with
    | push a => rfl
    | pop => rfl
    | bound m =>
      show [(((i + d : Nat) : Int), gwI b ws m)] = [((i : Int) + (d : Int), gwI b ws m)]
      rw [Int.natCast_add]
theorem reachF_in {b : Int} : ∀ {A : List Stp} {ws : List Wr} {i : Nat} {z : Int × Int}, z ∈ reachF b ws i A → (i : Int) ≤ z.1 ∧ z.1 < (i : Int) + A.length
  | [], _, _, _, h => absurd h (by unfold reachF; simp)
  | s :: A, ws, i, z, h => by
    have h : z ∈ atF b ws i s ++ reachF b (stepOn ws s) (i + 1) A := h
    have el : ((s :: A).length : Int) = A.length + 1 := by simp
    rw [el]
    rcases List.mem_append.mp h with h | h
    · cases s with
      | push a => exact absurd h (by unfold atF; simp)
      | pop => exact absurd h (by unfold atF; simp)
      | bound m =>
        have h : z ∈ [((i : Int), gwI b ws m)] := h
        rw [List.mem_singleton.mp h]
        exact ⟨Int.le_refl _, by show (i : Int) < _; omega⟩
    · have := reachF_in h
      omega
noncomputable def idleR (ps : List (Int × Int)) : List Int := (ps.filter fun z => decide (leastL (othL ps z.1) = leastL ps)).map (·.1)
theorem idleL_R (b : Int) (ss : List Stp) : idleL b ss = idleR (reachF b [] 0 ss) := by
  unfold idleL idleR
  rw [← which_reach b ss ss.length, List.filter_map, ← reachL_F]
  rfl
theorem least_mv (f : Int → Int) (ps : List (Int × Int)) : leastL (ps.map (mvF f)) = leastL ps := by
  unfold leastL
  rw [List.map_map]
  rfl
theorem oth_mv {f : Int → Int} (hf : ∀ x y, f x = f y → x = y) (ps : List (Int × Int)) (i : Int) : othL (ps.map (mvF f)) (f i) = (othL ps i).map (mvF f) := by
  unfold othL
  rw [List.filter_map]
  congr 1
  refine List.filter_congr fun z _ => ?_
  show (!decide (f z.1 = f i)) = !decide (z.1 = i)
  by_cases c : z.1 = i
  · simp [c]
  · have c2 : ¬ f z.1 = f i := fun q => c (hf _ _ q)
    rw [decide_eq_false c, decide_eq_false c2]
theorem idle_mv {f : Int → Int} (hf : ∀ x y, f x = f y → x = y) (ps : List (Int × Int)) : idleR (ps.map (mvF f)) = (idleR ps).map f := by
  unfold idleR
  rw [List.filter_map, List.map_map, List.map_map, least_mv]
  have e : (fun z => decide (leastL (othL (ps.map (mvF f)) z.1) = leastL ps)) ∘ mvF f = fun z => decide (leastL (othL ps z.1) = leastL ps) := by
    funext z
    show decide (leastL (othL (ps.map (mvF f)) (f z.1)) = leastL ps) = _
    rw [oth_mv hf, least_mv]
  rw [e]
  rfl
theorem least_le {ps qs : List (Int × Int)} (h : ∀ z ∈ qs, ∃ y ∈ ps, y.2 = z.2) : leastL ps ≤ leastL qs := by
  obtain ⟨g1, g2, g3⟩ := least_fold (ps.map (·.2)) (10 ^ 60 - 1)
  obtain ⟨f1, f2, f3⟩ := least_fold (qs.map (·.2)) (10 ^ 60 - 1)
  rcases f3 with f3 | f3
  · show _ ≤ leastL qs
    unfold leastL
    rw [f3]
    exact g1
  · obtain ⟨z, hz, e⟩ := List.mem_map.mp f3
    obtain ⟨y, hy, ey⟩ := h z hz
    have := g2 z.2 (List.mem_map.mpr ⟨y, hy, ey⟩)
    show leastL ps ≤ leastL qs
    unfold leastL
    rw [← e]
    exact this
theorem least_perm {ps qs : List (Int × Int)} (h : ps.Perm qs) : leastL ps = leastL qs := by
  have h1 : leastL ps ≤ leastL qs := least_le fun z hz => ⟨z, h.mem_iff.mpr hz, rfl⟩
  have h2 : leastL qs ≤ leastL ps := least_le fun z hz => ⟨z, h.mem_iff.mp hz, rfl⟩
  omega
theorem idle_perm {ps qs : List (Int × Int)} (h : ps.Perm qs) : (idleR ps).length = (idleR qs).length := by
  unfold idleR
  rw [List.length_map, List.length_map]
  have e : (fun z : Int × Int => decide (leastL (othL ps z.1) = leastL ps)) = fun z => decide (leastL (othL qs z.1) = leastL qs) := by
    funext z
    rw [least_perm h, least_perm (show (othL ps z.1).Perm (othL qs z.1) from h.filter _)]
  rw [e]
  exact (h.filter _).length_eq
/-! a push and a pop -/
def mvA (at_ : Nat) (x : Int) : Int := if x < (at_ : Int) then x else x + 2
theorem mvA_inj (n : Nat) : ∀ x y, mvA n x = mvA n y → x = y := fun x y h => by
  unfold mvA at h
  split at h <;> split at h <;> omega
theorem on_pp (ws : List Wr) (a : Wr) : stepOn (stepOn ws (.push a)) .pop = ws := by
  show (ws ++ [a]).dropLast = ws
  exact List.dropLast_concat
theorem moved_reach (b : Int) (A B : List Stp) (a : Wr) : reachF b [] 0 (A ++ (.push a :: .pop :: B)) = (reachF b [] 0 (A ++ B)).map (mvF (mvA A.length)) := by
  rw [reachF_app, reachF_app, List.map_append]
  congr 1
  · conv => lhs; rw [← List.map_id (reachF b [] 0 A)]
    refine List.map_congr_left fun z hz => ?_
    have := reachF_in hz
    unfold mvF mvA
    rw [if_pos (by omega)]
    rfl
  · show [] ++ ([] ++ reachF b (stepOn (stepOn (A.foldl stepOn []) (.push a)) .pop) (0 + A.length + 1 + 1) B) = _
    rw [on_pp, List.nil_append, List.nil_append, show 0 + A.length + 1 + 1 = 0 + A.length + 2 from rfl, reachF_shift]
    refine List.map_congr_left fun z hz => ?_
    have := reachF_in hz
    unfold mvF mvA
    rw [if_neg (by omega)]
    rfl
theorem moved_least (b : Int) (A B : List Stp) (a : Wr) : leastL (reachL b (A ++ (.push a :: .pop :: B)) (A ++ (.push a :: .pop :: B)).length) = leastL (reachL b (A ++ B) (A ++ B).length) := by
  rw [reachL_F, reachL_F, moved_reach, least_mv]
theorem moved_idle (b : Int) (A B : List Stp) (a : Wr) : idleL b (A ++ (.push a :: .pop :: B)) = (idleL b (A ++ B)).map (mvA A.length) := by
  rw [idleL_R, idleL_R, moved_reach, idle_mv (mvA_inj _)]
theorem onL_pp (A B : List Stp) (a : Wr) : onL (A ++ (.push a :: .pop :: B)) = onL (A ++ B) := by
  unfold onL
  rw [List.foldl_append, List.foldl_append]
  show B.foldl stepOn (stepOn (stepOn (A.foldl stepOn []) (.push a)) .pop) = _
  rw [on_pp]
theorem pp_get1 {A B : List Stp} {a : Wr} {j : Nat} (h : j < A.length) : (A ++ (.push a :: .pop :: B))[j]? = (A ++ B)[j]? ∧ (A ++ (.push a :: .pop :: B)).take j = (A ++ B).take j := by
  rw [List.getElem?_append_left h, List.getElem?_append_left h, List.take_append_of_le_length (by omega), List.take_append_of_le_length (by omega)]
  exact ⟨rfl, rfl⟩
theorem pp_get2 {A B : List Stp} {a : Wr} {j : Nat} (h : A.length ≤ j) : (A ++ (.push a :: .pop :: B))[j + 2]? = (A ++ B)[j]? ∧ onL ((A ++ (.push a :: .pop :: B)).take (j + 2)) = onL ((A ++ B).take j) := by
  have e : j + 2 - A.length = (j - A.length) + 1 + 1 := by omega
  constructor
  · rw [List.getElem?_append_right (by omega), List.getElem?_append_right h, e]
    rfl
  · have e1 : (A ++ (.push a :: .pop :: B)).take (j + 2) = A ++ (.push a :: .pop :: B.take (j - A.length)) := by
      rw [List.take_append, List.take_of_length_le (show A.length ≤ j + 2 by omega), e]
      rfl
    have e2 : (A ++ B).take j = A ++ B.take (j - A.length) := by rw [List.take_append, List.take_of_length_le h]
    rw [e1, e2, onL_pp]
def dueV (n : Nat) : V → V
  | .int i => .int (mvA n i)
  | v => v
theorem moved_pl {b : Int} {A B : List Stp} {a : Wr} {v : V} (h : IsPl b (A ++ B) v) : IsPl b (A ++ (.push a :: .pop :: B)) (dueV A.length v) := by
  unfold IsPl at h ⊢
  rw [moved_least]
  rcases h with ⟨e, rfl⟩ | ⟨n, i, x, rfl, g1, g2, g3⟩
  · exact .inl ⟨e, rfl⟩
  · refine .inr ⟨n, ?_⟩
    have old : ∀ j y, j < A.length → j < i → (A ++ (.push a :: .pop :: B))[j]? = some (.bound y) → gwI b (onL ((A ++ (.push a :: .pop :: B)).take j)) y ≠ leastL (reachL b (A ++ B) (A ++ B).length) := fun j y hj ji e => by
      rw [(pp_get1 hj).1] at e
      rw [(pp_get1 hj).2]
      exact g3 j y ji e
    by_cases c : i < A.length
    · refine ⟨i, x, ?_, ?_, ?_, fun j y hj e => old j y (by omega) hj e⟩
      · show V.int (mvA A.length i) = _
        unfold mvA
        rw [if_pos (by omega)]
      · rw [(pp_get1 c).1]; exact g1
      · rw [(pp_get1 c).2]; exact g2
    · have c : A.length ≤ i := by omega
      refine ⟨i + 2, x, ?_, ?_, ?_, fun j y hj e => ?_⟩
      · show V.int (mvA A.length i) = _
        unfold mvA
        rw [if_neg (by omega)]
        rfl
      · rw [(pp_get2 c).1]; exact g1
      · rw [(pp_get2 c).2]; exact g2
      · by_cases c1 : j < A.length
        · exact old j y c1 (by omega) e
        · by_cases c2 : j < A.length + 2
          · exfalso
            have : j = A.length ∨ j = A.length + 1 := by omega
            rw [List.getElem?_append_right (by omega)] at e
            rcases this with z | z
            · rw [z, Nat.sub_self] at e
              cases e
            · rw [z, show A.length + 1 - A.length = 1 by omega] at e
              cases e
          · obtain ⟨k, rfl⟩ : ∃ k, j = k + 2 := ⟨j - 2, by omega⟩
            have hk : A.length ≤ k := by omega
            rw [(pp_get2 hk).1] at e
            rw [(pp_get2 hk).2]
            exact g3 k y (by omega) e
theorem RoadB.pp {b : Int} {A B : List Stp} {a : Wr} (h : RoadB b (A ++ B)) (ok : StkOk b (onL A ++ [a])) : RoadB b (A ++ (.push a :: .pop :: B)) := by
  refine RoadB.of fun j s e => ?_
  by_cases c1 : j < A.length
  · rw [(pp_get1 c1).2]
    rw [(pp_get1 c1).1] at e
    exact h.at_ e
  · by_cases c2 : j < A.length + 2
    · have : j = A.length ∨ j = A.length + 1 := by omega
      rw [List.getElem?_append_right (by omega)] at e
      rw [List.take_append, List.take_of_length_le (by omega)]
      rcases this with z | z
      · rw [z, Nat.sub_self] at e ⊢
        cases e
        rw [List.take_zero, List.append_nil]
        exact ok
      · rw [z, show A.length + 1 - A.length = 1 by omega] at e ⊢
        cases e
        show onL (A ++ [.push a]) ≠ []
        rw [onL_snoc]
        show onL A ++ [a] ≠ []
        simp
    · obtain ⟨k, rfl⟩ : ∃ k, j = k + 2 := ⟨j - 2, by omega⟩
      have hk : A.length ≤ k := by omega
      rw [(pp_get2 hk).1] at e
      rw [(pp_get2 hk).2]
      exact h.at_ e
/-! two bounds at one place -/
theorem two_reach (b x y : Int) (A B : List Stp) : reachF b [] 0 (A ++ (.bound x :: .bound y :: B)) = reachF b [] 0 A ++ (((A.length : Int), gwI b (onL A) x) :: ((A.length : Int) + 1, gwI b (onL A) y) :: reachF b (onL A) (A.length + 2) B) := by
  rw [reachF_app, Nat.zero_add]
  congr 1
theorem one_reach (b x : Int) (A B : List Stp) : reachF b [] 0 (A ++ (.bound x :: B)) = reachF b [] 0 A ++ (((A.length : Int), gwI b (onL A) x) :: reachF b (onL A) (A.length + 1) B) := by
  rw [reachF_app, Nat.zero_add]
  congr 1
theorem twice_least (b x : Int) (A B : List Stp) : leastL (reachL b (A ++ (.bound x :: .bound x :: B)) (A ++ (.bound x :: .bound x :: B)).length) = leastL (reachL b (A ++ (.bound x :: B)) (A ++ (.bound x :: B)).length) := by
  rw [reachL_F, reachL_F, two_reach, one_reach, show A.length + 2 = A.length + 1 + 1 from rfl, reachF_shift b 1 B (onL A) (A.length + 1)]
  generalize reachF b (onL A) (A.length + 1) B = R
  generalize reachF b [] 0 A = L
  generalize gwI b (onL A) x = g
  have h1 : leastL (L ++ (((A.length : Int), g) :: ((A.length : Int) + 1, g) :: R.map (mvF fun x => x + ((1 : Nat) : Int)))) ≤ leastL (L ++ (((A.length : Int), g) :: R)) := least_le fun z hz => by
    rcases List.mem_append.mp hz with hz | hz
    · exact ⟨z, List.mem_append_left _ hz, rfl⟩
    · rcases List.mem_cons.mp hz with rfl | hz
      · exact ⟨_, List.mem_append_right _ (List.mem_cons_self ..), rfl⟩
      · exact ⟨mvF (fun x => x + ((1 : Nat) : Int)) z, List.mem_append_right _ (List.mem_cons_of_mem _ (List.mem_cons_of_mem _ (List.mem_map.mpr ⟨z, hz, rfl⟩))), rfl⟩
  have h2 : leastL (L ++ (((A.length : Int), g) :: R)) ≤ leastL (L ++ (((A.length : Int), g) :: ((A.length : Int) + 1, g) :: R.map (mvF fun x => x + ((1 : Nat) : Int)))) := least_le fun z hz => by
    rcases List.mem_append.mp hz with hz | hz
    · exact ⟨z, List.mem_append_left _ hz, rfl⟩
    · rcases List.mem_cons.mp hz with rfl | hz
      · exact ⟨_, List.mem_append_right _ (List.mem_cons_self ..), rfl⟩
      · rcases List.mem_cons.mp hz with rfl | hz
        · exact ⟨_, List.mem_append_right _ (List.mem_cons_self ..), rfl⟩
        · obtain ⟨y, hy, rfl⟩ := List.mem_map.mp hz
          exact ⟨y, List.mem_append_right _ (List.mem_cons_of_mem _ hy), rfl⟩
  omega
theorem fst_none {ps : List (Int × Int)} {n : Int} (h : ∀ z ∈ ps, z.1 ≠ n ∧ z.1 ≠ n + 1) (p : Int × Int → Bool) : (((ps.filter p).map (·.1)).filter fun k => decide (k = n ∨ k = n + 1)) = [] := by
  refine List.filter_eq_nil_iff.mpr fun k hk => ?_
  obtain ⟨z, hz, rfl⟩ := List.mem_map.mp hk
  have := h z (List.mem_filter.mp hz).1
  simp [this.1, this.2]
theorem twice_idle (b x : Int) (A B : List Stp) : ((idleL b (A ++ (.bound x :: .bound x :: B))).filter fun k => decide (k = (A.length : Int) ∨ k = (A.length : Int) + 1)) = [(A.length : Int), (A.length : Int) + 1] := by
  rw [idleL_R, two_reach]
  have hL : ∀ z ∈ reachF b [] 0 A, z.1 < (A.length : Int) := fun z hz => by have := reachF_in hz; omega
  have hR : ∀ z ∈ reachF b (onL A) (A.length + 2) B, (A.length : Int) + 2 ≤ z.1 := fun z hz => by have := reachF_in hz; omega
  generalize reachF b (onL A) (A.length + 2) B = R at hR ⊢
  generalize reachF b [] 0 A = L at hL ⊢
  generalize gwI b (onL A) x = g
  generalize (A.length : Int) = n at hL hR ⊢
  generalize eP : L ++ ((n, g) :: (n + 1, g) :: R) = ps
  have m1 : (n, g) ∈ ps := by rw [← eP]; exact List.mem_append_right _ (List.mem_cons_self ..)
  have m2 : (n + 1, g) ∈ ps := by rw [← eP]; exact List.mem_append_right _ (List.mem_cons_of_mem _ (List.mem_cons_self ..))
  have uq : ∀ z ∈ ps, (z.1 = n ∨ z.1 = n + 1) → z.2 = g := fun z hz hn => by
    rw [← eP] at hz
    rcases List.mem_append.mp hz with hz | hz
    · have := hL z hz
      omega
    · rcases List.mem_cons.mp hz with rfl | hz
      · rfl
      · rcases List.mem_cons.mp hz with rfl | hz
        · rfl
        · have := hR z hz
          omega
  have key : ∀ i, (i = n ∨ i = n + 1) → leastL (othL ps i) = leastL ps := fun i hi => by
    have h1 : leastL ps ≤ leastL (othL ps i) := least_sub fun z hz => (List.mem_filter.mp hz).1
    have h2 : leastL (othL ps i) ≤ leastL ps := least_le fun z hz => by
      by_cases c : z.1 = i
      · have e := uq z hz (by rw [c]; exact hi)
        rcases hi with rfl | rfl
        · exact ⟨(i + 1, g), List.mem_filter.mpr ⟨m2, by
            have : ¬ i + 1 = i := by omega
            simp [this]⟩, e.symm⟩
        · exact ⟨(n, g), List.mem_filter.mpr ⟨m1, by
            have : ¬ n = n + 1 := by omega
            simp [this]⟩, e.symm⟩
      · exact ⟨z, List.mem_filter.mpr ⟨hz, by simp [c]⟩, rfl⟩
    omega
  unfold idleR
  have k1 := key n (.inl rfl)
  have k2 := key (n + 1) (.inr rfl)
  generalize hp : (fun z : Int × Int => decide (leastL (othL ps z.1) = leastL ps)) = p
  have p1 : p (n, g) = true := by rw [← hp]; exact decide_eq_true k1
  have p2 : p (n + 1, g) = true := by rw [← hp]; exact decide_eq_true k2
  have e1 : ps.filter p = L.filter p ++ ((n, g) :: (n + 1, g) :: R.filter p) := by
    rw [← eP, List.filter_append, List.filter_cons_of_pos p1, List.filter_cons_of_pos p2]
  rw [e1, List.map_append, List.filter_append, fst_none (n := n) (fun z hz => by have := hL z hz; omega), List.nil_append, List.map_cons, List.map_cons]
  show List.filter _ (n :: (n + 1) :: _) = _
  rw [List.filter_cons_of_pos (by simp), List.filter_cons_of_pos (by simp), fst_none (n := n) (fun z hz => by have := hR z hz; omega)]
def swF (n x : Int) : Int := if x = n then n + 1 else if x = n + 1 then n else x
theorem swF_inj (n : Int) : ∀ x y, swF n x = swF n y → x = y := fun x y h => by
  unfold swF at h
  split at h <;> split at h <;> (try split at h) <;> (try split at h) <;> omega
theorem sw_perm (b x y : Int) (A B : List Stp) : ((reachF b [] 0 (A ++ (.bound x :: .bound y :: B))).map (mvF (swF A.length))).Perm (reachF b [] 0 (A ++ (.bound y :: .bound x :: B))) := by
  rw [two_reach, two_reach, List.map_append, List.map_cons, List.map_cons]
  have eL : (reachF b [] 0 A).map (mvF (swF A.length)) = reachF b [] 0 A := by
    conv => rhs; rw [← List.map_id (reachF b [] 0 A)]
    refine List.map_congr_left fun z hz => ?_
    have := reachF_in hz
    unfold mvF swF
    rw [if_neg (by omega), if_neg (by omega)]
    rfl
  have eR : (reachF b (onL A) (A.length + 2) B).map (mvF (swF A.length)) = reachF b (onL A) (A.length + 2) B := by
    conv => rhs; rw [← List.map_id (reachF b (onL A) (A.length + 2) B)]
    refine List.map_congr_left fun z hz => ?_
    have := reachF_in hz
    unfold mvF swF
    rw [if_neg (by omega), if_neg (by omega)]
    rfl
  rw [eL, eR]
  have e1 : mvF (swF A.length) ((A.length : Int), gwI b (onL A) x) = ((A.length : Int) + 1, gwI b (onL A) x) := by
    unfold mvF swF
    rw [if_pos rfl]
  have e2 : mvF (swF A.length) ((A.length : Int) + 1, gwI b (onL A) y) = ((A.length : Int), gwI b (onL A) y) := by
    unfold mvF swF
    rw [if_neg (by show ¬ (A.length : Int) + 1 = _; omega), if_pos rfl]
  rw [e1, e2]
  exact (List.Perm.swap _ _ _).append_left _
theorem swap_least (b x y : Int) (A B : List Stp) : leastL (reachL b (A ++ (.bound x :: .bound y :: B)) (A ++ (.bound x :: .bound y :: B)).length) = leastL (reachL b (A ++ (.bound y :: .bound x :: B)) (A ++ (.bound y :: .bound x :: B)).length) := by
  rw [reachL_F, reachL_F, ← least_perm (sw_perm b x y A B), least_mv]
theorem swap_idle (b x y : Int) (A B : List Stp) : (idleL b (A ++ (.bound x :: .bound y :: B))).length = (idleL b (A ++ (.bound y :: .bound x :: B))).length := by
  rw [idleL_R, idleL_R, ← idle_perm (sw_perm b x y A B), idle_mv (swF_inj _), List.length_map]
/-! ### an attempt -/
theorem free_act : ∀ y ∈ (C8.fnScope stAct).names, y.2 = .free → (defScope s_L_tried).names.lookup y.1 = some .cell ∨ (defScope s_L_tried).names.lookup y.1 = some .free := by decide +kernel
theorem capt_act : ∀ y ∈ (["_law_lengths_here", "_law_moves_here", "_law_track_here"] : List Str), (y, NameKind.free) ∈ (C8.fnScope stAct).names := by decide +kernel
abbrev qAct : Str := ("_law_tried" : Str) ++ ".<locals>." ++ "_law_act"
def tabsN (K : PySem.W.Frag) : List NdefX.NTab := [((He.cT K ("_law_tried", none)).2, fun _ _ => qAct)]
theorem tabsN_of {K : PySem.W.Frag} {H : Hp} (h : LamX.Tabs (tabsOf K) H) : NdefX.TabsN (tabsN K) H := fun p hp => by
  rw [List.mem_singleton.mp hp]
  exact NdefX.TabN.of (h _ (List.mem_cons_self ..))
theorem tabsN_to {K : PySem.W.Frag} {H : Hp} (h : NdefX.TabsN (tabsN K) H) : LamX.Tabs (tabsOf K) H := fun p hp => by
  rw [List.mem_singleton.mp hp]
  exact NdefX.TabN.to (h _ (List.mem_cons_self ..))
theorem tabsN_u {K : PySem.W.Frag} {x : Addr} : ∀ p ∈ tabsN K, p.1 = x → p.2 = fun _ _ => qAct := fun p hp _ => by rw [List.mem_singleton.mp hp]
theorem tabs_kp {T : List (Addr × Str)} {r : Addr} {cl d : Addr} {fs : List (Str × V)} {H H' : Hp} (hr : H r = some (.ins cl d fs)) (k : Kp r H H') (t : LamX.Tabs T H) : LamX.Tabs T H' := fun q hq => by
  obtain ⟨ps, h1, h2, h3⟩ := t q hq
  refine ⟨ps, k _ _ (fun z => by rw [z, hr] at h1; cases h1) h1, h2, fun pos cv hc => ?_⟩
  obtain ⟨c, e1, e2⟩ := h3 pos cv hc
  exact ⟨c, e1, k _ _ (fun z => by rw [z, hr] at e2; cases e2) e2⟩
theorem keeps_ext {K : PySem.W.Frag} {H H' : Hp} (e : LamX.ExtN H H') : Keeps K H H' := ⟨fun h => e _ _ h (fun ps z => by cases z), fun h => e _ _ h (fun ps z => by cases z), fun h => e _ _ h (fun ps z => by cases z)⟩
theorem RoadAt.ext {K : PySem.W.Frag} {H H' : Hp} {r : Addr} {b : Int} {ss : List Stp} (h : RoadAt K H r b ss) (e : LamX.ExtN H H') : RoadAt K H' r b ss := by
  obtain ⟨⟨dx, t, q, xs, h1, h2, h3, h4⟩, rest⟩ := h
  have ks := keeps_ext (K := K) e
  exact ⟨⟨dx, t, q, xs, e _ _ h1 (fun ps z => by cases z), ks.tup h2, h3.keeps ks, h4.keeps ks⟩, by assumption, by assumption, by assumption, by assumption⟩
theorem MoveAt.ext {H H' : Hp} {p : Addr} {s : Stp} (h : MoveAt H p s) (e : LamX.ExtN H H') : MoveAt H' p s := by
  cases s with
  | push a =>
    obtain ⟨q, h1, h2⟩ := h
    exact ⟨q, e _ _ h1 (fun ps z => by cases z), e _ _ h2 (fun ps z => by cases z)⟩
  | pop => exact e _ _ h (fun ps z => by cases z)
  | bound n => exact e _ _ h (fun ps z => by cases z)
theorem MovesAt.ext {H H' : Hp} {xs : List V} {ss : List Stp} (h : MovesAt H xs ss) (e : LamX.ExtN H H') : MovesAt H' xs ss := by
  induction h with
  | nil => exact .nil
  | cons h _ ih => exact .cons (h.ext e) ih
def spTried (K : PySem.W.Frag) : Sp := fun vs H Q _ => ∃ (l ln : Addr) (xs : List V) (ss : List Stp) (b : Int) (ns : List Int), vs = [.ref l, .int b, .ref ln] ∧ H l = some (.lst xs) ∧ MovesAt H xs ss ∧ RoadB b ss ∧ ss.length < 11 ∧ 2 ≤ b ∧ b ≤ 256 ∧ H ln = some (.lst (ns.map V.int)) ∧ ns.length ≤ 3 ∧ (∀ n ∈ ns, 0 ≤ n ∧ n ≤ 10 ^ 60 - 1) ∧ LamX.Tabs (tabsOf K) H ∧
  ∀ v H', IsPl b ss v → LamX.ExtN H H' → LamX.Tabs (tabsOf K) H' → Q (.str (toldD b ss ns v).shown) H'
section
variable {P : Program} {w : World} {K : PySem.W.Frag} {mg : Str → Option Value} {base : Heap}
theorem ok_L_tried (T : Tx w K mg) (U : UT K mg base) : PromG P w K mg base 15 "_law_tried" s_L_tried ["_law_moves_here", "_law_b", "_law_lengths_here"] (spTried K) := by
  refine PromG.ofT T.dt_L_tried sc_L_tried (fun vs H Q E h => ?_) (fun _ _ _ _ _ _ us hl => match us, hl with | [_, _, _], _ => rfl) (fun f A outer s H vs Q E hr hgd h => ?_)
  · obtain ⟨l, ln, xs, ss, b, ns, rfl, _⟩ := h
    rfl
  · obtain ⟨l, ln, xs, ss, b, ns, rfl, hl, hm, rb, len, b0, b1, hln, nl, hn, hT, k⟩ := h
    refine ⟨_, (pss_cons (ps_set (i := 5) sc_L_tried.nd rfl (Or.inr rfl) (pe_newP (ok_Road T) (hr.mono (by decide)) (by rfl) pass0 (pa_cons (pv 1) pa_nil)))
      (pss_cons (NdefX.ps_ndefMS (T := tabsN K) (nm := fun _ _ => qAct) (name := "_law_act") (by rfl) (U _ (List.mem_cons_self ..)) rfl (List.mem_cons_self ..) rfl tabsN_u free_act rfl rfl rfl sc_L_tried.nd (i := 3) rfl (.inl rfl) (.inl rfl))
      (pss_cons (ps_set (i := 4) sc_L_tried.nd rfl (Or.inl rfl) (pe_callH (X := (cxOf CX0 P w K mg base ["_law_moves_here", "_law_b", "_law_lengths_here", "_law_act", "_law_told", "_law_track_here"] "_law_tried" (defScope s_L_tried) f (.ref (He.codeOf K ("_law_tried", none))) A outer s H E).nox) (fun g c' ws => ok_attempt T (ws := ws) (nok_act T (g := g) (q := qAct) (c := c')) (by decide)) (js := [2, 0, 5]) (fun _ => rfl) (fun ok => NdefX.Caps.made ok free_act capt_act rfl) (fun _ => rfl) hgd (hr.mono (by decide)) (by rfl) (pa_cons (pv 5) (pa_cons (pv 3) pa_nil))))
      (pss_one (ps_ret (pe_ifExp (pt_cmp (pc_eqI (pe_callB (cr_lenO (ok_Road___len__ T) (hr.mono (by decide)) pass0) (by rfl) T.b_len (by decide +kernel) (pa_cons (pv 5) pa_nil)) pe_int)) (pv 4) pe_str)))))), ?_⟩
    refine ⟨_, rfl, b, rfl, b0, b1, fun r H1 nr s1 hR => ?_⟩
    refine gn ⟨tabsN_of (hT.ext s1), fun fa c' H2 eN nn T2 f0 f1 c1 => ?_⟩
    have hl2 := eN _ _ (s1 _ _ hl) (fun ps z => by cases z)
    have hln2 := eN _ _ (s1 _ _ hln) (fun ps z => by cases z)
    have hm2 := (hm.same s1).ext eN
    have hR2 := hR.ext eN
    have T2 := tabsN_to T2
    refine ⟨_, rfl, _, rfl, fa, c', r, b, [], rfl, hR2, f1, c1, fun H3 Q' s3 hR3 kq => ?_⟩
    refine ⟨r, ln, l, b, ss, ns, xs, rfl, rfl, hR3, s3 _ _ hl2, hm2.same s3, rb, len, s3 _ _ hln2, nl, hn, fun v H4 pl k4 hR4 => kq _ _ k4 ⟨_, hR4⟩ (fun H5 k5 hR5 => gn ?_)⟩
    obtain ⟨d5, _, _, _, e5, _⟩ := id hR5.at_
    obtain ⟨d2, _, _, _, e2, _⟩ := id hR2.at_
    exact ⟨_, rfl, r, d5, _, rfl, e5, r, b, [], rfl, hR5, _, rfl, by decide, by decide, _, _, rfl, rfl, _, rfl, ifd_pos rfl ⟨_, rfl, k v H5 pl (fun x o e t => k5 _ _ (fun z => by rw [z, nr] at e; cases e) (eN _ _ (s1 _ _ e) t)) (tabs_kp e2 k5 T2)⟩⟩
end
/-! ### a push and a pop put in -/
theorem RoadAt.drewQ {K : PySem.W.Frag} {p r : Addr} {b : Int} {ss : List Stp} {H H' : Hp} (h : RoadAt K H r b ss) (hp : PurseAt H p) (d : Drew p H H') : RoadAt K H' r b ss := by
  obtain ⟨_, _, _, e, _⟩ := hp
  exact h.kp e d.kp
def spMovedR (K : PySem.W.Frag) : Sp := fun vs H Q _ => ∃ (p l : Addr) (xs : List V) (ss : List Stp) (b m : Int), vs = [.ref p, .ref l, .int b, .int m] ∧ PurseAt H p ∧ l ≠ p ∧ H l = some (.lst xs) ∧ MovesAt H xs ss ∧ RoadB b ss ∧ ss.length < 11 ∧ 2 ≤ b ∧ b ≤ 256 ∧ 0 ≤ m ∧ m ≤ 10 ^ 60 - 1 ∧ ∀ H', Drew p H H' → Q (.bl true) H'
theorem eqv_tints (xs : List Int) : PyData.eqv (.tuple (xs.map PyData.int)) (.tuple (xs.map PyData.int)) = true := by
  have key : PyData.eqvAll (xs.map PyData.int) (xs.map PyData.int) = true := by
    induction xs with
    | nil => rfl
    | cons x xs ih =>
      show (PyData.eqv (.int x) (.int x) && PyData.eqvAll (xs.map PyData.int) (xs.map PyData.int)) = true
      rw [ih, Bool.and_true]
      exact beq_self_eq_true x
  exact key
theorem tn_eq {σ : L2.St} {H : Hp} {k : List V → Hp → Prop} (H2 : Hp) (e : H = H2) (h : tNil σ H2 k) : tNil σ H k := e ▸ h
section
variable {P : Program} {w : World} {K : PySem.W.Frag} {mg : Str → Option Value} {base : Heap}
theorem ok_L_moved_right (T : Tx w K mg) : PromG P w K mg base 12 "_law_moved_right" s_L_moved_right ["_law_pool_here", "_law_moves_here", "_law_b", "_law_middle"] (spMovedR K) := by
  refine PromG.of T.d_L_moved_right sc_L_moved_right (fun vs H Q E h => ?_) (fun _ _ _ _ _ _ us hl => match us, hl with | [_, _, _, _], _ => rfl) (fun f cdv A outer s H vs Q E hr hgd h => ?_)
  · obtain ⟨p, l, xs, ss, b, m, rfl, _⟩ := h
    rfl
  · obtain ⟨p, l, xs, ss, b, m, rfl, hp, nlp, hl, hm, rb, len, b0, b1, m0, m1, k⟩ := h
    have hlx := hm.len
    refine ⟨_, (pss_cons (ps_asg (pe_tup (pa_cons (pe_callP (ok_L_track T) (hr.mono (by decide)) (by rfl) pass0 (pa_cons (pv 1) (pa_cons (pv 2) pa_nil))) (pa_cons (pe_callP (ok_L_draw T) (hr.mono (by decide)) (by rfl) pass0 (pa_cons (pv 0) (pa_cons (pe_op op_add (pe_callB call_len_seq (by rfl) T.b_len (by decide +kernel) (pa_cons (pv 1) pa_nil)) pe_int) pa_nil))) pa_nil))) (pg_tup rfl (pgs_cons (pg_name (i := 4) sc_L_moved_right.nd rfl (Or.inl rfl)) (pgs_cons (pg_name (i := 5) sc_L_moved_right.nd rfl (Or.inr rfl)) pgs_nil))))
      (pss_cons (ps_set (i := 6) sc_L_moved_right.nd rfl (Or.inl rfl) (pe_callP (ok_L_on T) (hr.mono (by decide)) (by rfl) pass0 (pa_cons (pe_slice sl_list (pv 1) po_none (po_some (pv 5))) pa_nil)))
      (pss_cons (ps_if (pt_cmp (pc_eqI (pe_callB call_len_seq (by rfl) T.b_len (by decide +kernel) (pa_cons (pv 6) pa_nil)) pe_int)) (pss_one (ps_ret pe_bl)) pss_nil)
      (pss_cons (ps_set (i := 7) sc_L_moved_right.nd rfl (Or.inl rfl) (pe_callP (ok_L_wrap T) (hr.mono (by decide)) (by rfl) pass0 (pa_cons (pv 0) (pa_cons (pe_op op_fdiv pe_int (pe_callP (ok_L_fine T) (hr.mono (by decide)) (by rfl) pass0 (pa_cons (pv 6) pa_nil))) pa_nil))))
      (pss_cons (ps_set (i := 8) sc_L_moved_right.nd rfl (Or.inl rfl) (pe_callP (ok_L_track T) (hr.mono (by decide)) (by rfl) pass0 (pa_cons (pe_op op_cat (pe_op op_cat (pe_slice sl_list (pv 1) po_none (po_some (pv 5))) (pe_lst (pa_cons (pe_tup (pa_cons pe_str (pa_cons (pv 7) pa_nil))) (pa_cons (pe_tup (pa_cons pe_str pa_nil)) pa_nil)))) (pe_slice sl_list (pv 1) (po_some (pv 5)) po_none)) (pa_cons (pv 2) pa_nil))))
      (pss_cons (ps_par (i := 9) (j := 10) (by rfl) sc_L_moved_right.nd rfl rfl (by decide) rfl rfl (pa_cons (pe_methP0 (ok_Road_stopper T) (hr.mono (by decide)) pass0 (pv 4)) (pa_cons (pe_methP0 (ok_Road_stopper T) (hr.mono (by decide)) pass0 (pv 8)) pa_nil)) (by rfl))
      (pss_cons (ps_set (i := 11) sc_L_moved_right.nd rfl (Or.inl rfl) (pe_lst (pa_cons (pe_methP0 (ok_Road_greatest T) (hr.mono (by decide)) pass0 (pv 4)) (pa_cons (pe_methP (ok_Road_fits T) (hr.mono (by decide)) pass0 (pv 4) (pa_cons (pv 3) pa_nil)) pa_nil))))
      (pss_cons (ps_if (pt_cmpR op_ne (pe_callB (cr_reprD hgd hr.units) (by rfl) T.b_repr (by decide +kernel) (pa_cons (pv 11) pa_nil)) (pe_callB (cr_reprD hgd hr.units) (by rfl) T.b_repr (by decide +kernel) (pa_cons (pe_lst (pa_cons (pe_methP0 (ok_Road_greatest T) (hr.mono (by decide)) pass0 (pv 8)) (pa_cons (pe_methP (ok_Road_fits T) (hr.mono (by decide)) pass0 (pv 8) (pa_cons (pv 3) pa_nil)) pa_nil))) pa_nil)) (nomark _)) (pss_one (ps_ret pe_bl)) pss_nil)
      (pss_cons (ps_set (i := 12) sc_L_moved_right.nd rfl (Or.inl rfl) (pe_weak (pe_ifExp (PW.pt (pw_or (pt_cmpR op_isN (pv 9) pe_non (nomark _)) (pw_or1 (pt_cmpR op_lt (pv 9) (pv 5) (nomark _))))) (pv 9) (pe_op op_add (pv 9) pe_int))))
      (pss_cons (ps_setLc (i := 13) (own := [("_law_k", 14)]) (g := (gName 14)) (tt := tYes) (by rfl) sc_L_moved_right.nd rfl rfl (sw_true rfl rfl rfl (by decide +kernel)) (pi_tup (pe_methP0 (ok_Road_idle T) (hr.mono (by decide)) pass0 (pv 4))) (blkOk_by (own := [("_law_k", 14)]) (N := ["_law_pool_here", "_law_moves_here", "_law_b", "_law_middle", "_law_track_here", "_law_at", "_law_on_here", "_law_tag", "_law_more", "_law_first", "_law_last", "_law_told", "_law_due", "_law_kept", "_law_k"]) (sc := defScope s_L_moved_right) (by decide +kernel)) (fun _ _ _ _ _ => (pg_name (i := 14) sc_L_moved_right.nd rfl (Or.inl rfl))) (fun _ _ _ _ _ => pts_nil) (fun _ _ _ _ _ => (pe_ifExp (pt_cmp (pc_lt (pv 14) (pv 5))) (pv 14) (pe_op op_add (pv 14) pe_int))))
      (pss_one (ps_ret (pe_and (pe_cmpR op_eq (pe_callB cr_repr (by rfl) T.b_repr (by decide +kernel) (pa_cons (pv 10) pa_nil)) (pe_callB cr_repr (by rfl) T.b_repr (by decide +kernel) (pa_cons (pv 12) pa_nil)) (nomark _)) (pe_one (pe_cmpR (op_eqD hr.units) (pe_methP0 (ok_Road_idle T) (hr.mono (by decide)) pass0 (pv 8)) (pe_callTy call_tuple_of (by rfl) T.b_tuple (by decide +kernel) (pa_cons (pv 13) pa_nil)) (nomark _)))))))))))))))), ?_⟩
    refine ⟨_, rfl, _, rfl, l, xs, ss, b, rfl, hl, hm, rb, by omega, b0, b1, fun r H1 nr s1 hR => ⟨_, rfl, _, rfl, l, xs, rfl, .inl (SqL.of (s1 _ _ hl)), _, _, rfl, rfl, p, _, rfl, hp.same s1, by omega, by omega, fun at_ H2 a0 a1 d2 => ⟨(by show 2 ≤ sizeLine; decide), fun t ht => ⟨t, _, rfl, SqT.of upd_same, rfl, _, _, rfl, _, _, rfl, rfl, ?_⟩⟩⟩⟩
    have D2 : Drew p H (upd H2 t (.tup [.ref r, .int at_])) := (((Drew.refl hp).same s1).trans d2).new ht
    have st := up (o := .tup [.ref r, .int at_]) ht
    have hR2 := (hR.drewQ (hp.same s1) d2).same st
    have hl2 := st _ _ (d2.kp _ _ nlp (s1 _ _ hl))
    have hm2 := ((hm.same s1).drew d2 (hp.same s1)).same st
    refine hp_eq (upd H2 t (.tup [.ref r, .int at_])) rfl ?_
    generalize (upd H2 t (.tup [.ref r, .int at_])) = H3 at D2 hR2 hl2 hm2 ⊢
    obtain ⟨i, rfl⟩ : ∃ i : Nat, at_ = i := ⟨at_.toNat, by omega⟩
    have il : i ≤ ss.length := by omega
    refine st_eq [some (.ref p), some (.ref l), some (.int b), some (.int m), some (.ref r), some (.int (i : Int)), none, none, none, none, none, none, none, none, none] rfl ?_
    have e0 : cutV xs none (some (i : Int)) = xs.take i := cut_to (by omega)
    have e1 : cutV xs (some (i : Int)) none = xs.drop i := cut_from (by omega)
    refine ⟨_, rfl, _, rfl, _, rfl, l, xs, rfl, SqL.of hl2, fun la hla => ?_⟩
    rw [e0]
    refine ⟨la, xs.take i, ss.take i, b, rfl, upd_same, (hm2.same (up hla)).take i, rb.take i, b0, b1, fun lo os H4 nlo s4 hlo htags => gn ?_⟩
    have s34 := (up (o := .lst (xs.take i)) hla).trans s4
    have so := (rb.take i).stk b0 b1
    have ol := htags.len
    refine ⟨_, rfl, lo, os, rfl, .inl (SqL.of hlo), _, _, rfl, rfl, _, rfl, ifd (fun c => ?_) (fun c => ?_)⟩
    · exact k _ (D2.same s34)
    have c : ¬ (os.length : Int) = 6 := c
    have hl4 := s34 _ _ hl2
    have hm4 := hm2.same s34
    have hR4 := hR2.same s34
    have D4 := D2.same s34
    have fp : 1 ≤ fineL (onL (ss.take i)) := fine_pos (ws := onL (ss.take i)) so.ok (p := 1) (by decide)
    have f2 := so.fine
    have s6 := so.len
    refine ⟨_, rfl, _, rfl, lo, os, onL (ss.take i), rfl, hlo, htags, so.ok, fun H5 s5 => ⟨_, _, rfl, rfl, ⟨by omega, by omega⟩, ?_⟩⟩
    have q1 : 1 ≤ 120 / fineL (onL (ss.take i)) := Int.le_ediv_of_mul_le (by omega) (by omega)
    have q2 : 120 / fineL (onL (ss.take i)) ≤ 120 := Int.ediv_le_self _ (by decide)
    have D5 := D4.same s5
    refine ⟨p, _, rfl, D5.at_, q1, q2, fun q a H6 ha hu nq d6 ta => gn ?_⟩
    have sok := wrap_room so (by omega) ha hu
    have hl6 := d6.kp _ _ nlp (s5 _ _ hl4)
    have hm6 := (hm4.same s5).drew d6 D5.at_
    have hR6 := (hR4.same s5).drewQ D5.at_ d6
    have D6 := D5.trans d6
    refine st_eq [some (.ref p), some (.ref l), some (.int b), some (.int m), some (.ref r), some (.int (i : Int)), some (.ref lo), some (.ref q), none, none, none, none, none, none, none] rfl ?_
    refine ⟨_, rfl, _, rfl, _, rfl, l, xs, rfl, SqL.of hl6, fun l1 hl1 => ?_⟩
    rw [e0]
    have t1 := up (o := .lst (xs.take i)) hl1
    have g1 : (upd H6 l1 (.lst (xs.take i))) l1 = some (.lst (xs.take i)) := upd_same
    generalize (upd H6 l1 (.lst (xs.take i))) = G1 at t1 g1 ⊢
    refine ⟨_, rfl, (by show 2 ≤ sizeLine; decide), fun t2 ht2 => ⟨(by show 1 ≤ sizeLine; decide), fun t3 ht3 => ⟨(by show 2 ≤ sizeLine; decide), fun l2 hl2' => ?_⟩⟩⟩
    have t2' := up (o := .tup [.str "push", .ref q]) ht2
    have h2' : (upd G1 t2 (.tup [.str "push", .ref q])) t2 = some (.tup [.str "push", .ref q]) := upd_same
    generalize (upd G1 t2 (.tup [.str "push", .ref q])) = G2 at t2' h2' ht3 hl2' ⊢
    have t3' := up (o := .tup [.str "pop"]) ht3
    have h3' : (upd G2 t3 (.tup [.str "pop"])) t3 = some (.tup [.str "pop"]) := upd_same
    generalize (upd G2 t3 (.tup [.str "pop"])) = G3 at t3' h3' hl2' ⊢
    have t4' := up (o := .lst [V.ref t2, V.ref t3]) hl2'
    have h4' : (upd G3 l2 (.lst [V.ref t2, V.ref t3])) l2 = some (.lst [V.ref t2, V.ref t3]) := upd_same
    generalize (upd G3 l2 (.lst [V.ref t2, V.ref t3])) = G4 at t4' h4' ⊢
    have S4 := ((t1.trans t2').trans t3').trans t4'
    refine ⟨l1, l2, _, _, rfl, rfl, t4' _ _ (t3' _ _ (t2' _ _ g1)), h4', ?_, fun l3 hl3 => ?_⟩
    · rw [List.length_take, sizeLine_eq]
      show _ + 2 ≤ _
      omega
    have t5' := up (o := .lst (xs.take i ++ [V.ref t2, V.ref t3])) hl3
    have h5' : (upd G4 l3 (.lst (xs.take i ++ [V.ref t2, V.ref t3]))) l3 = some (.lst (xs.take i ++ [V.ref t2, V.ref t3])) := upd_same
    generalize (upd G4 l3 (.lst (xs.take i ++ [V.ref t2, V.ref t3]))) = G5 at t5' h5' ⊢
    refine ⟨_, rfl, _, rfl, _, rfl, l, xs, rfl, SqL.of (t5' _ _ (S4 _ _ hl6)), fun l4 hl4' => ?_⟩
    rw [e1]
    have t6' := up (o := .lst (xs.drop i)) hl4'
    have h6' : (upd G5 l4 (.lst (xs.drop i))) l4 = some (.lst (xs.drop i)) := upd_same
    generalize (upd G5 l4 (.lst (xs.drop i))) = G6 at t6' h6' ⊢
    refine ⟨l3, l4, _, _, rfl, rfl, t6' _ _ h5', h6', ?_, fun l5 hl5 => ?_⟩
    · rw [List.length_append, List.length_take, List.length_drop, sizeLine_eq]
      show _ + 2 + _ ≤ _
      omega
    have t7' := up (o := .lst (xs.take i ++ [V.ref t2, V.ref t3] ++ xs.drop i)) hl5
    have h7' : (upd G6 l5 (.lst (xs.take i ++ [V.ref t2, V.ref t3] ++ xs.drop i))) l5 = some (.lst (xs.take i ++ [V.ref t2, V.ref t3] ++ xs.drop i)) := upd_same
    generalize (upd G6 l5 (.lst (xs.take i ++ [V.ref t2, V.ref t3] ++ xs.drop i))) = G7 at t7' h7' ⊢
    have S7 := ((S4.trans t5').trans t6').trans t7'
    have S57 := (t5'.trans t6').trans t7'
    have hm7 := hm6.same S7
    have mv2 : MoveAt G7 t2 (.push a) := ⟨q, S57 _ _ (t4' _ _ (t3' _ _ h2')), S7 _ _ ta⟩
    have mv3 : MoveAt G7 t3 .pop := S57 _ _ (t4' _ _ h3')
    have M : MovesAt G7 (xs.take i ++ [V.ref t2, V.ref t3] ++ xs.drop i) (ss.take i ++ (.push a :: .pop :: ss.drop i)) := by
      have := ((hm7.take i).app (.cons mv2 (.cons mv3 .nil))).app (hm7.drop i)
      exact this.eq rfl (by simp)
    have eA : ss.take i ++ ss.drop i = ss := List.take_append_drop i ss
    have eL : (ss.take i).length = i := by rw [List.length_take]; omega
    have rb2 : RoadB b (ss.take i ++ (.push a :: .pop :: ss.drop i)) := RoadB.pp (by rw [eA]; exact rb) sok
    have len2 : (ss.take i ++ (Stp.push a :: .pop :: ss.drop i)).length < 14 := by
      rw [List.length_append, List.length_cons, List.length_cons, List.length_take, List.length_drop]
      omega
    have Ml := moved_least b (ss.take i) (ss.drop i) a
    have Mi := moved_idle b (ss.take i) (ss.drop i) a
    have Mp := fun v h => moved_pl (b := b) (A := ss.take i) (B := ss.drop i) (a := a) (v := v) h
    rw [eA] at Ml Mi Mp
    rw [eL] at Mi Mp
    have hR7 := hR6.same S7
    have D7 := D6.same S7
    clear t1 t2' t3' t4' t5' t6' t7' h2' h3' h4' h5' h6' mv2 mv3 S57 S4 g1
    generalize (ss.take i ++ (Stp.push a :: .pop :: ss.drop i)) = us at M rb2 len2 Ml Mi Mp
    refine ⟨_, rfl, l5, _, us, b, rfl, h7', M, rb2, by omega, b0, b1, fun r2 H7 nr2 s7 hRu => gn ?_⟩
    have hR8 := hR7.same s7
    have D8 := D7.same s7
    obtain ⟨dx, x1, x2, x3, x4, _⟩ := id hR8.at_
    obtain ⟨dy, y1, y2, y3, y4, _⟩ := id hRu.at_
    refine st_eq [some (.ref p), some (.ref l), some (.int b), some (.int m), some (.ref r), some (.int (i : Int)), some (.ref lo), some (.ref q), some (.ref r2), none, none, none, none, none, none] rfl ?_
    refine ⟨_, rfl, r, dx, _, rfl, x4, rfl, r, ss, b, rfl, hR8, fun v1 H8 ag1 pl1 s8 => ⟨_, rfl, r2, dy, _, rfl, s8 _ _ y4, rfl, r2, us, b, rfl, hRu.same s8, fun v2 H9 ag2 pl2 s9 => ⟨_, _, rfl, ?_⟩⟩⟩
    have ev := pl_uniq pl2 (Mp v1 pl1)
    subst ev
    have op1 := pl_opt pl1 (by omega)
    have op2 := pl_opt pl2 (by omega)
    have s89 := s8.trans s9
    have x9 := s89 _ _ x4
    have y9 := s89 _ _ y4
    have hR9 := hR8.same s89
    have hU9 := hRu.same s89
    have D9 := D8.same s89
    refine st_eq [some (.ref p), some (.ref l), some (.int b), some (.int m), some (.ref r), some (.int (i : Int)), some (.ref lo), some (.ref q), some (.ref r2), some v1, some (dueV i v1), none, none, none, none] rfl ?_
    have eg : grV b us = grV b ss := by
      unfold grV
      rw [Ml]
    have ef : fitsP b us m ↔ fitsP b ss m := by rw [least_fits ag2 m0 m1, least_fits ag1 m0 m1, Ml]
    have sh : ∀ fb : Bool, ShE (.list [vD (grV b ss), .bool fb]) 2 300 := fun fb => (ShE.list (D := 1) (N := 91) (fun d hd => by
      simp only [List.mem_cons, List.not_mem_nil, or_false] at hd
      rcases hd with rfl | rfl
      · exact (gr_opt ag1).sh
      · exact (ShE.bool _).up (by decide) (by decide))).up (Nat.le_refl _) (by show 2 * (91 + 2) + 3 ≤ 300; decide)
    refine ⟨_, rfl, r, dx, _, rfl, x9, rfl, r, ss, b, rfl, hR9, fun H10 _ s10 => ⟨_, rfl, r, dx, _, rfl, s10 _ _ x9, rfl, _, rfl, r, ss, m, b, rfl, hR9.same s10, m0, m1, fun fb H11 hfb s11 => ⟨(by show 2 ≤ sizeLine; decide), fun lt hlt => gn ?_⟩⟩⟩
    have t12 := (s10.trans s11).trans (up (o := .lst [grV b ss, .bl fb]) hlt)
    have h12 : (upd H11 lt (.lst [grV b ss, .bl fb])) lt = some (.lst [grV b ss, .bl fb]) := upd_same
    refine hp_eq (upd H11 lt (.lst [grV b ss, .bl fb])) rfl ?_
    generalize (upd H11 lt (.lst [grV b ss, .bl fb])) = H12 at t12 h12 ⊢
    refine st_eq [some (.ref p), some (.ref l), some (.int b), some (.int m), some (.ref r), some (.int (i : Int)), some (.ref lo), some (.ref q), some (.ref r2), some v1, some (dueV i v1), some (.ref lt), none, none, none] rfl ?_
    refine ⟨_, rfl, lt, .list [vD (grV b ss), .bool fb], rfl, .lst (SqL.of h12) (.cons (gr_opt ag1).dp (.cons (.bl fb) .nil)), (sh fb).sho, (sh fb).nod, Nat.le_trans (sh fb).dep (by decide), Nat.le_trans (sh fb).len (by decide), ?_⟩
    refine ⟨_, rfl, r2, dy, _, rfl, t12 _ _ y9, rfl, r2, us, b, rfl, hU9.same t12, fun H13 _ s13 => ⟨_, rfl, r2, dy, _, rfl, (t12.trans s13) _ _ y9, rfl, _, rfl, r2, us, m, b, rfl, hU9.same (t12.trans s13), m0, m1, fun fb2 H14 hfb2 s14 => ⟨(by show 2 ≤ sizeLine; decide), fun l3 hl3 => ?_⟩⟩⟩
    have efb : fb2 = fb := by
      have e := hfb2.trans (ef.trans hfb.symm)
      cases fb2 <;> cases fb <;> simp at e ⊢
    subst efb
    have t15 := (s13.trans s14).trans (up (o := .lst [grV b us, .bl fb2]) hl3)
    have h15 : (upd H14 l3 (.lst [grV b us, .bl fb2])) l3 = some (.lst [grV b us, .bl fb2]) := upd_same
    have h15 : (upd H14 l3 (.lst [grV b us, .bl fb2])) l3 = some (.lst [grV b ss, .bl fb2]) := by rw [h15, eg]
    refine tn_eq (upd H14 l3 (.lst [grV b us, .bl fb2])) rfl ?_
    generalize (upd H14 l3 (.lst [grV b us, .bl fb2])) = H15 at t15 h15 ⊢
    refine ⟨l3, .list [vD (grV b ss), .bool fb2], rfl, .lst (SqL.of h15) (.cons (gr_opt ag1).dp (.cons (.bl fb2) .nil)), (sh fb2).sho, (sh fb2).nod, Nat.le_trans (sh fb2).dep (by decide), Nat.le_trans (sh fb2).len (by decide), ?_⟩
    generalize (PyData.list [vD (grV b ss), PyData.bool fb2]).shown = zz
    have T15 := t12.trans t15
    refine ⟨rfl, _, rfl, ifn (fun z => absurd rfl z) (fun _ => ?_)⟩
    refine ⟨fun v G => v = dueV i v1 ∧ G = H15, fun v G hv => ?_, ?_⟩
    rotate_left
    · rcases op1 with rfl | ⟨n, rfl, _⟩
      · refine ⟨_, rfl, rfl, _, rfl, ifd_pos rfl ?_⟩
        exact ifb_pos (b := true) rfl ⟨_, rfl, rfl, rfl⟩
      · refine ⟨_, rfl, rfl, _, rfl, ifd_neg (fun z => by cases z) ⟨_, rfl, _, rfl, n, i, rfl, rfl, _, rfl, ifd (fun c => ?_) (fun c => ?_)⟩⟩
        · have c : n < (i : Int) := c
          refine ⟨_, rfl, ?_, rfl⟩
          show V.int n = V.int (mvA i n)
          unfold mvA
          rw [if_pos c]
        · have c : ¬ n < (i : Int) := c
          refine ⟨_, rfl, n, 2, rfl, rfl, ?_, rfl⟩
          show V.int (n + 2) = V.int (mvA i n)
          unfold mvA
          rw [if_neg c]
    obtain ⟨rfl, rfl⟩ := hv
    refine gn ?_
    refine st_eq [some (.ref p), some (.ref l), some (.int b), some (.int m), some (.ref r), some (.int (i : Int)), some (.ref lo), some (.ref q), some (.ref r2), some v1, some (dueV i v1), some (.ref lt), some (dueV i v1), none, none] rfl ?_
    refine ⟨_, rfl, r, dx, _, rfl, T15 _ _ x9, rfl, r, ss, b, rfl, hR9.same T15, fun qi H16 nq _ s16 hqi => ?_⟩
    refine ⟨qi, rfl, ⟨_, SqT.of hqi⟩, fun D hD => ?_⟩
    have il2 := idle_len b ss
    refine lc_tup (K := K) (a := qi) (xs := (idleL b ss).map V.int) (Pv := fun j G => Same H16 G ∧ G D = some (.lst ((((idleL b ss).take j).map (mvA i)).map V.int))) ⟨up hD, upd_same⟩ (fun j G _ h => SqT.of (h.1 _ _ hqi)) ?_ ?_
    · rintro j x G hj ⟨hs, hd⟩
      obtain ⟨n, hn, rfl⟩ := int_at hj
      have jl : j < (idleL b ss).length := (List.getElem?_eq_some_iff.mp hn).1
      have fin : ∀ y, y = mvA i n → Same H16 (upd G D (.lst ((((idleL b ss).take j).map (mvA i)).map V.int ++ [V.int y]))) ∧ (upd G D (.lst ((((idleL b ss).take j).map (mvA i)).map V.int ++ [V.int y]))) D = some (.lst ((((idleL b ss).take (j + 1)).map (mvA i)).map V.int)) := fun y ey => by
        refine ⟨fun z o e => by rw [upd_ne (ne_of_none e hD)]; exact hs _ _ e, ?_⟩
        rw [upd_same, List.take_succ, hn, ey, List.map_append, List.map_append]
        rfl
      have sm : ((((idleL b ss).take j).map (mvA i)).map V.int).length < sizeLine := by
        rw [List.length_map, List.length_map, List.length_take, sizeLine_eq]
        omega
      refine ⟨rfl, _, rfl, _, rfl, n, i, rfl, rfl, _, rfl, ifd (fun c => ?_) (fun c => ?_)⟩
      · have c : n < (i : Int) := c
        exact ⟨_, rfl, _, hd, sm, fin n (by unfold mvA; rw [if_pos c])⟩
      · have c : ¬ n < (i : Int) := c
        exact ⟨_, rfl, n, 2, rfl, rfl, _, hd, sm, fin (n + 2) (by unfold mvA; rw [if_neg c])⟩
    rintro G ⟨hs, hd⟩
    rw [List.length_map, List.take_length, ← Mi] at hd
    refine gn ?_
    have T17 := (T15.trans s16).trans hs
    have fz : ∀ v : V, OptI v → ∃ z, flatShown v = some z := fun v h => by
      rcases h with rfl | ⟨n, rfl, hn⟩
      · exact ⟨_, rfl⟩
      · refine ⟨_, if_pos ?_⟩
        have : n.natAbs < 2 ^ 300 := Nat.lt_trans hn (by decide)
        exact Nat.lt_of_lt_of_le (PySem.Flt.log2_lt_of (by decide) this) (by decide)
    obtain ⟨z2, hz2⟩ := fz _ op2
    refine ⟨_, rfl, _, z2, rfl, hz2, _, rfl, _, z2, rfl, hz2, ?_⟩
    refine ⟨rfl, _, rfl, ifd_pos rfl ?_⟩
    refine ⟨_, rfl, r2, dy, _, rfl, T17 _ _ y9, rfl, r2, us, b, rfl, hU9.same T17, fun q2 H17 nq2 _ s17 hq2 => ⟨_, rfl, D, _, rfl, .inl ⟨SqL.of (s17 _ _ hd), fun t9 ht9 => ?_⟩⟩⟩
    refine ⟨_, _, .tup (SqT.of (up ht9 _ _ hq2)) (dp_intsA _), .tup (SqT.of upd_same) (dp_intsA _), (shp_ints_t _).shaped, (shp_ints_t _).shaped, ?_⟩
    rw [eqv_tints]
    exact k _ (((D9.same T17).same s17).new ht9)
end
/-! ### a bound given twice, two bounds exchanged -/
def spTwiceR (K : PySem.W.Frag) : Sp := fun vs H Q _ => ∃ (p l : Addr) (xs : List V) (ss : List Stp) (b : Int), vs = [.ref p, .ref l, .int b] ∧ PurseAt H p ∧ l ≠ p ∧ H l = some (.lst xs) ∧ MovesAt H xs ss ∧ RoadB b ss ∧ ss.length < 11 ∧ 2 ≤ b ∧ b ≤ 256 ∧ ∀ H', Drew p H H' → Q (.bl true) H'
theorem eqv_lints (xs : List Int) : PyData.eqv (.list (xs.map PyData.int)) (.list (xs.map PyData.int)) = true := eqv_tints xs
theorem opt_flat {v : V} (h : OptI v) : ∃ z, flatShown v = some z := by
  rcases h with rfl | ⟨n, rfl, hn⟩
  · exact ⟨_, rfl⟩
  · refine ⟨_, if_pos ?_⟩
    have : n.natAbs < 2 ^ 300 := Nat.lt_trans hn (by decide)
    exact Nat.lt_of_lt_of_le (PySem.Flt.log2_lt_of (by decide) this) (by decide)
section
variable {P : Program} {w : World} {K : PySem.W.Frag} {mg : Str → Option Value} {base : Heap}
theorem ok_L_twice_right (T : Tx w K mg) : PromG P w K mg base 12 "_law_twice_right" s_L_twice_right ["_law_pool_here", "_law_moves_here", "_law_b"] (spTwiceR K) := by
  refine PromG.of T.d_L_twice_right sc_L_twice_right (fun vs H Q E h => ?_) (fun _ _ _ _ _ _ us hl => match us, hl with | [_, _, _], _ => rfl) (fun f cdv A outer s H vs Q E hr hgd h => ?_)
  · obtain ⟨p, l, xs, ss, b, rfl, _⟩ := h
    rfl
  · obtain ⟨p, l, xs, ss, b, rfl, hp, nlp, hl, hm, rb, len, b0, b1, k⟩ := h
    have hlx := hm.len
    refine ⟨_, (pss_cons (ps_setLc (i := 3) (own := [("_law_k", 15)]) (g := (gName 15)) (by rfl) sc_L_twice_right.nd rfl rfl (sw_true rfl rfl rfl (by decide +kernel)) (pi_range1 (by rfl) T.b_range (pa_cons (pe_callB call_len_seq (by rfl) T.b_len (by decide +kernel) (pa_cons (pv 1) pa_nil)) pa_nil)) (blkOk_by (own := [("_law_k", 15)]) (N := ["_law_pool_here", "_law_moves_here", "_law_b", "_law_which", "_law_at", "_law_track_here", "_law_ahead", "_law_rest", "_law_more", "_law_found", "_law_edge_here", "_law_one", "_law_some", "_law_two", "_law_told", "_law_k"]) (sc := defScope s_L_twice_right) (by decide +kernel)) (fun _ _ _ _ _ => (pg_name (i := 15) sc_L_twice_right.nd rfl (Or.inl rfl))) (fun _ _ _ _ _ => pts_one (pt_cmpR op_eq (pe_ix (show IxR _ (rIxT K) from ix_tup) (pe_ix (show IxR _ (rIxL K) from ix_list) (pv 1) (pv 15) (fun _ _ => rfl)) pe_int (fun _ _ => rfl)) pe_str (nomark _))) (fun _ _ _ _ _ => (pv 15)))
      (pss_cons (ps_if (pt_cmpR (op_eqD hr.units) (pv 3) (pe_lst pa_nil) (nomark _)) (pss_one (ps_ret pe_bl)) pss_nil)
      (pss_cons (ps_set (i := 4) sc_L_twice_right.nd rfl (Or.inr rfl) (pe_ix ix_list (pv 3) (pe_callP (ok_L_draw T) (hr.mono (by decide)) (by rfl) pass0 (pa_cons (pv 0) (pa_cons (pe_callB call_len_seq (by rfl) T.b_len (by decide +kernel) (pa_cons (pv 3) pa_nil)) pa_nil))) (fun _ _ => rfl)))
      (pss_cons (ps_set (i := 5) sc_L_twice_right.nd rfl (Or.inl rfl) (pe_callP (ok_L_track T) (hr.mono (by decide)) (by rfl) pass0 (pa_cons (pv 1) (pa_cons (pv 2) pa_nil))))
      (pss_cons (ps_par (i := 6) (j := 7) (by rfl) sc_L_twice_right.nd rfl rfl (by decide) rfl rfl (pa_cons (pe_slice sl_list (pv 1) po_none (po_some (pe_op op_add (pv 4) pe_int))) (pa_cons (pe_slice sl_list (pv 1) (po_some (pv 4)) po_none) pa_nil)) (by rfl))
      (pss_cons (ps_set (i := 8) sc_L_twice_right.nd rfl (Or.inl rfl) (pe_callP (ok_L_track T) (hr.mono (by decide)) (by rfl) pass0 (pa_cons (pe_op op_cat (pv 6) (pv 7)) (pa_cons (pv 2) pa_nil))))
      (pss_cons (ps_if (pt_cmpR op_ne (pe_callB cr_repr (by rfl) T.b_repr (by decide +kernel) (pa_cons (pe_methP0 (ok_Road_greatest T) (hr.mono (by decide)) pass0 (pv 5)) pa_nil)) (pe_callB cr_repr (by rfl) T.b_repr (by decide +kernel) (pa_cons (pe_methP0 (ok_Road_greatest T) (hr.mono (by decide)) pass0 (pv 8)) pa_nil)) (nomark _)) (pss_one (ps_ret pe_bl)) pss_nil)
      (pss_cons (ps_setLc (i := 9) (own := [("_law_k", 15)]) (g := (gName 15)) (by rfl) sc_L_twice_right.nd rfl rfl (sw_true rfl rfl rfl (by decide +kernel)) (pi_tup (pe_methP0 (ok_Road_idle T) (hr.mono (by decide)) pass0 (pv 8))) (blkOk_by (own := [("_law_k", 15)]) (N := ["_law_pool_here", "_law_moves_here", "_law_b", "_law_which", "_law_at", "_law_track_here", "_law_ahead", "_law_rest", "_law_more", "_law_found", "_law_edge_here", "_law_one", "_law_some", "_law_two", "_law_told", "_law_k"]) (sc := defScope s_L_twice_right) (by decide +kernel)) (fun _ _ _ _ _ => (pg_name (i := 15) sc_L_twice_right.nd rfl (Or.inl rfl))) (fun _ _ _ _ _ => pts_one (pt_cmpR (show OpR _ (compareOp .In) (rIn K false) from op_in_seq) (pv 15) (pe_lst (pa_cons (pv 4) (pa_cons (pe_op op_add (pv 4) pe_int) pa_nil))) (by rfl))) (fun _ _ _ _ _ => (pv 15)))
      (pss_cons (ps_if (pt_cmpR (op_neD hr.units) (pv 9) (pe_lst (pa_cons (pv 4) (pa_cons (pe_op op_add (pv 4) pe_int) pa_nil))) (nomark _)) (pss_one (ps_ret pe_bl)) pss_nil)
      (pss_cons (ps_set (i := 10) sc_L_twice_right.nd rfl (Or.inl rfl) (pe_tup (pa_cons pe_str (pa_cons (pe_op op_add (pe_op op_fdiv (pe_ix ix_tup (pe_ix ix_list (pv 1) (pv 4) (fun _ _ => rfl)) pe_int (fun _ _ => rfl)) pe_int) (pe_callP (ok_L_draw T) (hr.mono (by decide)) (by rfl) pass0 (pa_cons (pv 0) (pa_cons pe_int pa_nil)))) pa_nil))))
      (pss_cons (ps_set (i := 11) sc_L_twice_right.nd rfl (Or.inl rfl) (pe_callP (ok_L_track T) (hr.mono (by decide)) (by rfl) pass0 (pa_cons (pe_op op_cat (pe_op op_cat (pe_slice sl_list (pv 1) po_none (po_some (pv 4))) (pe_lst (pa_cons (pv 10) pa_nil))) (pe_slice sl_list (pv 1) (po_some (pv 4)) po_none)) (pa_cons (pv 2) pa_nil))))
      (pss_cons (ps_set (i := 12) sc_L_twice_right.nd rfl (Or.inl rfl) (pe_op op_cat (pe_op op_cat (pe_slice sl_list (pv 1) po_none (po_some (pe_op op_add (pv 4) pe_int))) (pe_lst (pa_cons (pv 10) pa_nil))) (pe_slice sl_list (pv 1) (po_some (pe_op op_add (pv 4) pe_int)) po_none)))
      (pss_cons (ps_set (i := 13) sc_L_twice_right.nd rfl (Or.inl rfl) (pe_callP (ok_L_track T) (hr.mono (by decide)) (by rfl) pass0 (pa_cons (pv 12) (pa_cons (pv 2) pa_nil))))
      (pss_cons (ps_set (i := 14) sc_L_twice_right.nd rfl (Or.inl rfl) (pe_lst (pa_cons (pe_methP0 (ok_Road_greatest T) (hr.mono (by decide)) pass0 (pv 11)) (pa_cons (pe_callB call_len_seq (by rfl) T.b_len (by decide +kernel) (pa_cons (pe_methP0 (ok_Road_idle T) (hr.mono (by decide)) pass0 (pv 11)) pa_nil)) pa_nil))))
      (pss_one (ps_ret (pe_cmpR op_eq (pe_callB (cr_reprD hgd hr.units) (by rfl) T.b_repr (by decide +kernel) (pa_cons (pv 14) pa_nil)) (pe_callB (cr_reprD hgd hr.units) (by rfl) T.b_repr (by decide +kernel) (pa_cons (pe_lst (pa_cons (pe_methP0 (ok_Road_greatest T) (hr.mono (by decide)) pass0 (pv 13)) (pa_cons (pe_callB call_len_seq (by rfl) T.b_len (by decide +kernel) (pa_cons (pe_methP0 (ok_Road_idle T) (hr.mono (by decide)) pass0 (pv 13)) pa_nil)) pa_nil))) pa_nil)) (nomark _)))))))))))))))))), ?_⟩
    refine ⟨_, rfl, l, xs, rfl, .inl (SqL.of hl), _, rfl, by omega, by omega, fun D hD => ?_⟩
    have el : ((xs.length : Nat) : Int).toNat = ss.length := by omega
    rw [el]
    refine lc_range (lo := 0) (n := ss.length) (Pv := fun j H' => Same H H' ∧ H' D = some (.lst ((whichL ss j).map V.int))) ⟨up hD, upd_same⟩ ?_ ?_
    · rintro j H' hj ⟨hs, hy⟩
      obtain ⟨st, hst⟩ : ∃ st, ss[j]? = some st := ⟨_, List.getElem?_eq_getElem hj⟩
      obtain ⟨q, hx, mv⟩ := (hm.same hs).at_ hst
      have zi : (0 : Int) + ((j : Nat) : Int) = ((j : Nat) : Int) := by omega
      have e1 : atI xs (0 + ((j : Nat) : Int)) = some (.ref q) := by rw [zi]; exact atI_nat hx
      have wl := whichL_len ss j
      have hlh := hs _ _ hl
      cases st with
      | push a =>
        obtain ⟨u, g1, g2⟩ := mv
        refine ⟨rfl, _, rfl, _, rfl, l, _, _, _, rfl, rfl, SqL.of hlh, e1, q, _, _, _, rfl, rfl, SqT.of g1, rfl, rfl, _, rfl, ifs_neg (show ("push" : Str) ≠ "bound" by decide) ⟨hs, ?_⟩⟩
        rw [hy, whichL_succ, if_neg (by unfold isBd; rw [hst]; exact Bool.false_ne_true), List.append_nil]
      | pop =>
        have g1 : H' q = _ := mv
        refine ⟨rfl, _, rfl, _, rfl, l, _, _, _, rfl, rfl, SqL.of hlh, e1, q, _, _, _, rfl, rfl, SqT.of g1, rfl, rfl, _, rfl, ifs_neg (show ("pop" : Str) ≠ "bound" by decide) ⟨hs, ?_⟩⟩
        rw [hy, whichL_succ, if_neg (by unfold isBd; rw [hst]; exact Bool.false_ne_true), List.append_nil]
      | bound n' =>
        have g1 : H' q = _ := mv
        refine ⟨rfl, _, rfl, _, rfl, l, _, _, _, rfl, rfl, SqL.of hlh, e1, q, _, _, _, rfl, rfl, SqT.of g1, rfl, rfl, _, rfl, ifd_pos rfl ⟨_, rfl, _, hy, ?_, fun y o e => ?_, ?_⟩⟩
        · rw [List.length_map, sizeLine_eq]
          omega
        · rw [upd_ne (ne_of_none e hD)]
          exact hs _ _ e
        · rw [upd_same, whichL_succ, if_pos (by unfold isBd; rw [hst]), List.map_append, zi]
          rfl
    · rintro H1 ⟨s1, hy⟩
      have hl1 := s1 _ _ hl
      have hm1 := hm.same s1
      have hp1 := hp.same s1
      have nDp : D ≠ p := hp.ne hD
      have wl := whichL_len ss ss.length
      have wm := fun x => whichL_mem (ss := ss) (k := ss.length) (x := x)
      generalize whichL ss ss.length = wh at hy wl wm
      refine gn ?_
      refine st_eq [some (.ref p), some (.ref l), some (.int b), some (.ref D), none, none, none, none, none, none, none, none, none, none, none, none] rfl ?_
      refine ⟨_, rfl, Nat.zero_le _, fun e he => ?_⟩
      have s2 := up (o := .lst []) he
      refine ⟨_, _, .lst (SqL.of (s2 _ _ hy)) (dp_intsA wh), .lst (SqL.of upd_same) .nil, (shp_ints_l wh).shaped, rfl, _, rfl, ?_⟩
      cases wh with
      | nil => exact ifb_pos rfl (k _ ((Drew.refl hp).same (s1.trans s2)))
      | cons w0 wr =>
        refine ifb_neg rfl ?_
        have hp2 := hp1.same s2
        have hy2 := s2 _ _ hy
        have hl2 := s2 _ _ hl1
        have hm2 := hm1.same s2
        have D2 := (Drew.refl hp).same (s1.trans s2)
        refine hp_eq (upd H1 e (.lst [])) rfl ?_
        generalize (upd H1 e (.lst [])) = H2 at hp2 hy2 hl2 hm2 D2 ⊢
        refine ⟨_, rfl, _, rfl, _, rfl, D, _, rfl, .inl (SqL.of hy2), p, _, rfl, hp2, by simp <;> omega, by simp at wl ⊢; omega, fun z H3 z0 z1 d3 => ?_⟩
        have hl3 := d3.kp _ _ nlp hl2
        have hm3 := hm2.drew d3 hp2
        have hy3 := d3.kp _ _ nDp hy2
        have D3 := D2.trans d3
        have zl : z.toNat < (w0 :: wr).length := by
          rw [List.length_map] at z1
          omega
        obtain ⟨x, hx⟩ : ∃ x, (w0 :: wr)[z.toNat]? = some x := ⟨_, List.getElem?_eq_getElem zl⟩
        obtain ⟨j, y, rfl, hj, es⟩ := wm x (List.mem_of_getElem? hx)
        refine ⟨D, _, _, .int (j : Nat), rfl, rfl, SqL.of hy3, at_of (show z = ((z.toNat : Nat) : Int) by omega) (by rw [List.getElem?_map, hx]; rfl), gn ?_⟩
        clear hx zl hy3 hy2 wm wl hy z0 z1
        have e0 : cutV xs none (some (j : Int)) = xs.take j := cut_to (by omega)
        have e1 : cutV xs none (some ((j : Int) + 1)) = xs.take (j + 1) := by
          rw [show (j : Int) + 1 = ((j + 1 : Nat) : Int) by omega]
          exact cut_to (by omega)
        have e2 : cutV xs (some (j : Int)) none = xs.drop j := cut_from (by omega)
        have e3 : cutV xs (some ((j : Int) + 1)) none = xs.drop (j + 1) := by
          rw [show (j : Int) + 1 = ((j + 1 : Nat) : Int) by omega]
          exact cut_from (by omega)
        have yk : 0 ≤ y ∧ y ≤ 10 ^ 60 - 1 := rb.at_ es
        have eS := split_at es
        have eT : ss.take (j + 1) = ss.take j ++ [.bound y] := by
          rw [List.take_succ, es]
          rfl
        have eD := drop_at es
        have eL : (ss.take j).length = j := by rw [List.length_take]; omega
        have lD : (ss.drop (j + 1)).length + j + 1 = ss.length := by rw [List.length_drop]; omega
        refine st_eq [some (.ref p), some (.ref l), some (.int b), some (.ref D), some (.int (j : Nat)), none, none, none, none, none, none, none, none, none, none, none] rfl ?_
        refine ⟨_, rfl, _, rfl, l, xs, ss, b, rfl, hl3, hm3, rb, by omega, b0, b1, fun r H4 nr s4 hR => gn ?_⟩
        have hl4 := s4 _ _ hl3
        have hm4 := hm3.same s4
        have D4 := D3.same s4
        refine st_eq [some (.ref p), some (.ref l), some (.int b), some (.ref D), some (.int (j : Nat)), some (.ref r), none, none, none, none, none, none, none, none, none, none] rfl ?_
        refine ⟨_, rfl, _, rfl, _, _, rfl, rfl, _, rfl, l, xs, rfl, SqL.of hl4, fun l1 hl1 => ?_⟩
        rw [e1]
        have t1 := up (o := .lst (xs.take (j + 1))) hl1
        have g1 : (upd H4 l1 (.lst (xs.take (j + 1)))) l1 = some (.lst (xs.take (j + 1))) := upd_same
        generalize (upd H4 l1 (.lst (xs.take (j + 1)))) = H5 at t1 g1 ⊢
        refine ⟨_, rfl, _, rfl, _, rfl, l, xs, rfl, SqL.of (t1 _ _ hl4), fun l2 hl2' => ?_⟩
        rw [e2]
        have t2 := up (o := .lst (xs.drop j)) hl2'
        have g2 : (upd H5 l2 (.lst (xs.drop j))) l2 = some (.lst (xs.drop j)) := upd_same
        generalize (upd H5 l2 (.lst (xs.drop j))) = H6 at t2 g2 ⊢
        refine ⟨_, _, rfl, ?_⟩
        have t12 := t1.trans t2
        refine st_eq [some (.ref p), some (.ref l), some (.int b), some (.ref D), some (.int (j : Nat)), some (.ref r), some (.ref l1), some (.ref l2), none, none, none, none, none, none, none, none] rfl ?_
        refine ⟨_, rfl, _, rfl, l1, l2, _, _, rfl, rfl, t2 _ _ g1, g2, ?_, fun l3 hl3' => ?_⟩
        · rw [List.length_take, List.length_drop, sizeLine_eq]
          omega
        have t3 := t12.trans (up (o := .lst (xs.take (j + 1) ++ xs.drop j)) hl3')
        have g3 : (upd H6 l3 (.lst (xs.take (j + 1) ++ xs.drop j))) l3 = some (.lst (xs.take (j + 1) ++ xs.drop j)) := upd_same
        generalize (upd H6 l3 (.lst (xs.take (j + 1) ++ xs.drop j))) = H7 at t3 g3 ⊢
        have hm7 := hm4.same t3
        have M : MovesAt H7 (xs.take (j + 1) ++ xs.drop j) (ss.take j ++ (.bound y :: .bound y :: ss.drop (j + 1))) := ((hm7.take (j + 1)).app (hm7.drop j)).eq rfl (by rw [eT, eD]; simp)
        have rb2 : RoadB b (ss.take j ++ (.bound y :: .bound y :: ss.drop (j + 1))) := RoadB.put (by rw [← eS]; exact rb) yk.1 yk.2
        have len2 : (ss.take j ++ (Stp.bound y :: .bound y :: ss.drop (j + 1))).length < 14 := by
          rw [List.length_append, List.length_cons, List.length_cons, eL]
          omega
        have Ml := twice_least b y (ss.take j) (ss.drop (j + 1))
        have Mi := twice_idle b y (ss.take j) (ss.drop (j + 1))
        rw [← eS] at Ml
        rw [eL] at Mi
        have hR7 := hR.same t3
        have D7 := D4.same t3
        generalize (ss.take j ++ (Stp.bound y :: .bound y :: ss.drop (j + 1))) = us at M rb2 len2 Ml Mi
        refine ⟨_, rfl, l3, _, us, b, rfl, g3, M, rb2, by omega, b0, b1, fun r2 H8 nr2 s8 hU => gn ?_⟩
        have t4 := t3.trans s8
        have hR8 := hR7.same s8
        have D8 := D7.same s8
        obtain ⟨dx, x1, x2, x3, x4, _⟩ := id hR8.at_
        obtain ⟨dy, y1, y2, y3, y4, _⟩ := id hU.at_
        refine st_eq [some (.ref p), some (.ref l), some (.int b), some (.ref D), some (.int (j : Nat)), some (.ref r), some (.ref l1), some (.ref l2), some (.ref r2), none, none, none, none, none, none, none] rfl ?_
        refine ⟨_, rfl, r, dx, _, rfl, x4, rfl, r, ss, b, rfl, hR8, fun H9 ag1 s9 => ?_⟩
        obtain ⟨z1, hz1⟩ := opt_flat (gr_opt ag1)
        have eg : grV b us = grV b ss := by
          unfold grV
          rw [Ml]
        refine ⟨_, z1, rfl, hz1, _, rfl, r2, dy, _, rfl, s9 _ _ y4, rfl, r2, us, b, rfl, hU.same s9, fun H10 ag2 s10 => ?_⟩
        have s910 := s9.trans s10
        refine ⟨_, z1, rfl, (show flatShown (grV b us) = some z1 by rw [eg]; exact hz1), rfl, _, rfl, ifn (fun z => absurd rfl z) (fun _ => ?_)⟩
        refine ⟨_, rfl, r2, dy, _, rfl, s910 _ _ y4, rfl, r2, us, b, rfl, hU.same s910, fun qi H11 nq _ s11 hqi => ⟨qi, rfl, ⟨_, SqT.of hqi⟩, fun Df hDf => ?_⟩⟩
        have il2 := idle_len b us
        refine lc_tup (K := K) (a := qi) (xs := (idleL b us).map V.int) (Pv := fun i G => Same H11 G ∧ G Df = some (.lst ((((idleL b us).take i).filter fun k => decide (k = (j : Int) ∨ k = (j : Int) + 1)).map V.int))) ⟨up hDf, upd_same⟩ (fun i G _ h => SqT.of (h.1 _ _ hqi)) ?_ ?_
        · rintro i x G hi ⟨hs, hd⟩
          obtain ⟨n, hn, rfl⟩ := int_at hi
          refine ⟨rfl, _, rfl, _, rfl, _, rfl, _, _, rfl, rfl, (by show 2 ≤ sizeLine; decide), fun lt hlt => ?_⟩
          have inv : (if false = true then !inV (.int n) [V.int (j : Int), .int ((j : Int) + 1)] else inV (.int n) [V.int (j : Int), .int ((j : Int) + 1)]) = decide (n = (j : Int) ∨ n = (j : Int) + 1) := by
            show inV (.int n) [V.int (j : Int), .int ((j : Int) + 1)] = _
            by_cases c : n = (j : Int) ∨ n = (j : Int) + 1
            · rw [decide_eq_true c]
              simp only [inV, List.any_cons, List.any_nil, Bool.or_false, Bool.or_eq_true]
              rcases c with c | c
              · exact .inl (decide_eq_true c.symm)
              · exact .inr (decide_eq_true c.symm)
            · rw [decide_eq_false c]
              simp only [inV, List.any_cons, List.any_nil, Bool.or_false, Bool.or_eq_false_iff]
              exact ⟨decide_eq_false fun z => c (.inl z.symm), decide_eq_false fun z => c (.inr z.symm)⟩
          have et : (idleL b us).take (i + 1) = (idleL b us).take i ++ [n] := by
            rw [List.take_succ, hn]
            rfl
          have s12 := hs.trans (up (o := .lst [V.int (j : Int), .int ((j : Int) + 1)]) hlt)
          have hd12 := up (o := .lst [V.int (j : Int), .int ((j : Int) + 1)]) hlt _ _ hd
          refine ⟨lt, [V.int (j : Int), .int ((j : Int) + 1)], rfl, .inl (SqL.of upd_same), rfl, rfl, _, rfl, ?_⟩
          rw [inv]
          refine ifd (fun c => ?_) (fun c => ?_)
          · refine ⟨_, rfl, _, hd12, ?_, fun z o e => ?_, ?_⟩
            · rw [List.length_map, sizeLine_eq]
              have h1 := List.length_filter_le (fun k : Int => decide (k = (j : Int) ∨ k = (j : Int) + 1)) ((idleL b us).take i)
              have h2 := List.length_take_le' i (idleL b us)
              omega
            · rw [upd_ne (ne_of_none e hDf)]
              exact s12 _ _ e
            · rw [upd_same, et, List.filter_append, List.filter_cons_of_pos (by exact decide_eq_true c), List.map_append]
              rfl
          · refine ⟨s12, ?_⟩
            rw [et, List.filter_append, List.filter_cons_of_neg (by rw [decide_eq_false c]; exact Bool.false_ne_true), List.filter_nil, List.append_nil]
            exact hd12
        rintro G ⟨hs, hd⟩
        rw [List.length_map, List.take_length, Mi] at hd
        refine gn ?_
        have S11 := (s910.trans s11).trans hs
        have D11 := D8.same S11
        have hl11 := S11 _ _ (t4 _ _ hl4)
        have hm11 := (hm4.same t4).same S11
        have hp11 := D11.at_
        refine st_eq [some (.ref p), some (.ref l), some (.int b), some (.ref D), some (.int (j : Nat)), some (.ref r), some (.ref l1), some (.ref l2), some (.ref r2), some (.ref Df), none, none, none, none, none, none] rfl ?_
        refine ⟨_, rfl, _, rfl, _, rfl, _, _, rfl, rfl, (by show 2 ≤ sizeLine; decide), fun lq hlq => ?_⟩
        have u1 := up (o := .lst [V.int (j : Int), .int ((j : Int) + 1)]) hlq
        have hq1 : (upd G lq (.lst [V.int (j : Int), .int ((j : Int) + 1)])) lq = some (.lst ([(j : Int), (j : Int) + 1].map V.int)) := upd_same
        refine ⟨_, _, .lst (SqL.of (u1 _ _ hd)) (dp_intsA [(j : Int), (j : Int) + 1]), .lst (SqL.of hq1) (dp_intsA [(j : Int), (j : Int) + 1]), (shp_ints_l _).shaped, (shp_ints_l _).shaped, ?_⟩
        rw [eqv_lints]
        refine ⟨_, rfl, ifb_neg rfl ?_⟩
        have D12 := D11.same u1
        have hl12 := u1 _ _ hl11
        have hm12 := hm11.same u1
        obtain ⟨q, hxq, mvq⟩ := hm12.at_ es
        have mvq : (upd G lq (.lst [V.int (j : Int), .int ((j : Int) + 1)])) q = some (.tup [.str "bound", .int y]) := mvq
        refine hp_eq (upd G lq (.lst [V.int (j : Int), .int ((j : Int) + 1)])) rfl ?_
        generalize (upd G lq (.lst [V.int (j : Int), .int ((j : Int) + 1)])) = H12 at D12 hl12 hm12 mvq ⊢
        refine ⟨_, rfl, _, rfl, l, _, _, _, rfl, rfl, SqL.of hl12, atI_nat hxq, q, _, _, _, rfl, rfl, SqT.of mvq, rfl, _, _, rfl, rfl, ⟨by decide, by decide⟩, _, rfl, p, 9, rfl, D12.at_, by decide, by decide, fun dz H13 dz0 dz1 d13 => ⟨_, _, rfl, rfl, (by show 2 ≤ sizeLine; decide), fun te hte => gn ?_⟩⟩
        have v0 := up (o := .tup [.str "bound", .int (y / 2 + dz)]) hte
        have D14 := (D12.trans d13).new (o := .tup [.str "bound", .int (y / 2 + dz)]) hte
        have hl14 := v0 _ _ (d13.kp _ _ nlp hl12)
        have hm14 := (hm12.drew d13 D12.at_).same v0
        have hte14 : (upd H13 te (.tup [.str "bound", .int (y / 2 + dz)])) te = some (.tup [.str "bound", .int (y / 2 + dz)]) := upd_same
        refine hp_eq (upd H13 te (.tup [.str "bound", .int (y / 2 + dz)])) rfl ?_
        generalize (upd H13 te (.tup [.str "bound", .int (y / 2 + dz)])) = H14 at D14 hl14 hm14 hte14 ⊢
        have ek : 0 ≤ y / 2 + dz ∧ y / 2 + dz ≤ 10 ^ 60 - 1 := by omega
        refine st_eq [some (.ref p), some (.ref l), some (.int b), some (.ref D), some (.int (j : Nat)), some (.ref r), some (.ref l1), some (.ref l2), some (.ref r2), some (.ref Df), some (.ref te), none, none, none, none, none] rfl ?_
        generalize y / 2 + dz = eb at hte14 ek
        clear D12 hl12 hm12 mvq hxq d13 v0 hte u1 hq1 hlq hs hd S11 D11 hl11 hm11 hp11 hqi il2 s910 s9 s10 s11 hz1 hU hR8 hR7 D8 D7 t1 t2 t3 g1 g2 g3 t12 t4 s8 nr2
        refine ⟨_, rfl, _, rfl, _, rfl, l, xs, rfl, SqL.of hl14, fun a1 ha1 => ?_⟩
        rw [e0]
        have t1 := up (o := .lst (xs.take j)) ha1
        have g1 : (upd H14 a1 (.lst (xs.take j))) a1 = some (.lst (xs.take j)) := upd_same
        generalize (upd H14 a1 (.lst (xs.take j))) = G1 at t1 g1 ⊢
        refine ⟨_, rfl, (by show 1 ≤ sizeLine; decide), fun a2 ha2 => ?_⟩
        have t2 := up (o := .lst [V.ref te]) ha2
        have g2 : (upd G1 a2 (.lst [V.ref te])) a2 = some (.lst [V.ref te]) := upd_same
        generalize (upd G1 a2 (.lst [V.ref te])) = G2 at t2 g2 ⊢
        refine ⟨a1, a2, _, _, rfl, rfl, t2 _ _ g1, g2, ?_, fun a3 ha3 => ?_⟩
        · rw [List.length_take, sizeLine_eq]
          show _ + 1 ≤ _
          omega
        have t3 := up (o := .lst (xs.take j ++ [V.ref te])) ha3
        have g3 : (upd G2 a3 (.lst (xs.take j ++ [V.ref te]))) a3 = some (.lst (xs.take j ++ [V.ref te])) := upd_same
        generalize (upd G2 a3 (.lst (xs.take j ++ [V.ref te]))) = G3 at t3 g3 ⊢
        have t13 := (t1.trans t2).trans t3
        refine ⟨_, rfl, _, rfl, _, rfl, l, xs, rfl, SqL.of (t13 _ _ hl14), fun a4 ha4 => ?_⟩
        rw [e2]
        have t4 := up (o := .lst (xs.drop j)) ha4
        have g4 : (upd G3 a4 (.lst (xs.drop j))) a4 = some (.lst (xs.drop j)) := upd_same
        generalize (upd G3 a4 (.lst (xs.drop j))) = G4 at t4 g4 ⊢
        refine ⟨a3, a4, _, _, rfl, rfl, t4 _ _ g3, g4, ?_, fun a5 ha5 => ?_⟩
        · rw [List.length_append, List.length_take, List.length_drop, sizeLine_eq]
          show _ + 1 + _ ≤ _
          omega
        have t5 := (t13.trans t4).trans (up (o := .lst (xs.take j ++ [V.ref te] ++ xs.drop j)) ha5)
        have g5 : (upd G4 a5 (.lst (xs.take j ++ [V.ref te] ++ xs.drop j))) a5 = some (.lst (xs.take j ++ [V.ref te] ++ xs.drop j)) := upd_same
        generalize (upd G4 a5 (.lst (xs.take j ++ [V.ref te] ++ xs.drop j))) = G5 at t5 g5 ⊢
        have hm5 := hm14.same t5
        have mve : MoveAt G5 te (.bound eb) := t5 _ _ hte14
        have M1 : MovesAt G5 (xs.take j ++ [V.ref te] ++ xs.drop j) (ss.take j ++ (.bound eb :: .bound y :: ss.drop (j + 1))) := (((hm5.take j).app (.cons mve .nil)).app (hm5.drop j)).eq rfl (by rw [eD]; simp)
        have rb1 : RoadB b (ss.take j ++ (.bound eb :: .bound y :: ss.drop (j + 1))) := RoadB.put (by rw [← eS]; exact rb) ek.1 ek.2
        have rb2' : RoadB b (ss.take j ++ (.bound y :: .bound eb :: ss.drop (j + 1))) := by
          have h := RoadB.put (ss := ss.take (j + 1)) (us := ss.drop (j + 1)) (by rw [List.take_append_drop]; exact rb) ek.1 ek.2
          rw [eT, List.append_assoc] at h
          exact h
        have ln1 : (ss.take j ++ (Stp.bound eb :: .bound y :: ss.drop (j + 1))).length < 14 := by
          rw [List.length_append, List.length_cons, List.length_cons, eL]
          omega
        have ln2 : (ss.take j ++ (Stp.bound y :: .bound eb :: ss.drop (j + 1))).length < 14 := by
          rw [List.length_append, List.length_cons, List.length_cons, eL]
          omega
        have Sl := swap_least b eb y (ss.take j) (ss.drop (j + 1))
        have Si := swap_idle b eb y (ss.take j) (ss.drop (j + 1))
        have e2s : ss.take (j + 1) ++ [.bound eb] ++ ss.drop (j + 1) = ss.take j ++ (.bound y :: .bound eb :: ss.drop (j + 1)) := by
          rw [eT]
          simp
        have D15 := D14.same t5
        generalize (ss.take j ++ (Stp.bound eb :: .bound y :: ss.drop (j + 1))) = us1 at M1 rb1 ln1 Sl Si
        generalize (ss.take j ++ (Stp.bound y :: .bound eb :: ss.drop (j + 1))) = us2 at rb2' ln2 Sl Si e2s
        refine ⟨_, rfl, a5, _, us1, b, rfl, g5, M1, rb1, by omega, b0, b1, fun r3 H16 nr3 s16 hR1 => gn ?_⟩
        have t6 := t5.trans s16
        have hl16 := t6 _ _ hl14
        have D16 := D14.same t6
        refine st_eq [some (.ref p), some (.ref l), some (.int b), some (.ref D), some (.int (j : Nat)), some (.ref r), some (.ref l1), some (.ref l2), some (.ref r2), some (.ref Df), some (.ref te), some (.ref r3), none, none, none, none] rfl ?_
        refine ⟨_, rfl, _, rfl, _, _, rfl, rfl, _, rfl, l, xs, rfl, SqL.of hl16, fun a6 ha6 => ?_⟩
        rw [e1]
        have w1 := up (o := .lst (xs.take (j + 1))) ha6
        have f1 : (upd H16 a6 (.lst (xs.take (j + 1)))) a6 = some (.lst (xs.take (j + 1))) := upd_same
        generalize (upd H16 a6 (.lst (xs.take (j + 1)))) = F1 at w1 f1 ⊢
        refine ⟨_, rfl, (by show 1 ≤ sizeLine; decide), fun a7 ha7 => ?_⟩
        have w2 := up (o := .lst [V.ref te]) ha7
        have f2 : (upd F1 a7 (.lst [V.ref te])) a7 = some (.lst [V.ref te]) := upd_same
        generalize (upd F1 a7 (.lst [V.ref te])) = F2 at w2 f2 ⊢
        refine ⟨a6, a7, _, _, rfl, rfl, w2 _ _ f1, f2, ?_, fun a8 ha8 => ?_⟩
        · rw [List.length_take, sizeLine_eq]
          show _ + 1 ≤ _
          omega
        have w3 := up (o := .lst (xs.take (j + 1) ++ [V.ref te])) ha8
        have f3 : (upd F2 a8 (.lst (xs.take (j + 1) ++ [V.ref te]))) a8 = some (.lst (xs.take (j + 1) ++ [V.ref te])) := upd_same
        generalize (upd F2 a8 (.lst (xs.take (j + 1) ++ [V.ref te]))) = F3 at w3 f3 ⊢
        have w13 := (w1.trans w2).trans w3
        refine ⟨_, rfl, _, rfl, _, _, rfl, rfl, _, rfl, l, xs, rfl, SqL.of (w13 _ _ hl16), fun a9 ha9 => ?_⟩
        rw [e3]
        have w4 := up (o := .lst (xs.drop (j + 1))) ha9
        have f4 : (upd F3 a9 (.lst (xs.drop (j + 1)))) a9 = some (.lst (xs.drop (j + 1))) := upd_same
        generalize (upd F3 a9 (.lst (xs.drop (j + 1)))) = F4 at w4 f4 ⊢
        refine ⟨a8, a9, _, _, rfl, rfl, w4 _ _ f3, f4, ?_, fun a10 ha10 => gn ?_⟩
        · rw [List.length_append, List.length_take, List.length_drop, sizeLine_eq]
          show _ + 1 + _ ≤ _
          omega
        have w5 := (w13.trans w4).trans (up (o := .lst (xs.take (j + 1) ++ [V.ref te] ++ xs.drop (j + 1))) ha10)
        have f5 : (upd F4 a10 (.lst (xs.take (j + 1) ++ [V.ref te] ++ xs.drop (j + 1)))) a10 = some (.lst (xs.take (j + 1) ++ [V.ref te] ++ xs.drop (j + 1))) := upd_same
        refine hp_eq (upd F4 a10 (.lst (xs.take (j + 1) ++ [V.ref te] ++ xs.drop (j + 1)))) rfl ?_
        generalize (upd F4 a10 (.lst (xs.take (j + 1) ++ [V.ref te] ++ xs.drop (j + 1)))) = F5 at w5 f5 ⊢
        have hm6 := (hm14.same t6).same w5
        have mve2 : MoveAt F5 te (.bound eb) := w5 _ _ (t6 _ _ hte14)
        have M2 : MovesAt F5 (xs.take (j + 1) ++ [V.ref te] ++ xs.drop (j + 1)) us2 := (((hm6.take (j + 1)).app (.cons mve2 .nil)).app (hm6.drop (j + 1))).eq rfl e2s
        refine st_eq [some (.ref p), some (.ref l), some (.int b), some (.ref D), some (.int (j : Nat)), some (.ref r), some (.ref l1), some (.ref l2), some (.ref r2), some (.ref Df), some (.ref te), some (.ref r3), some (.ref a10), none, none, none] rfl ?_
        refine ⟨_, rfl, _, rfl, a10, _, us2, b, rfl, f5, M2, rb2', by omega, b0, b1, fun r4 H17 nr4 s17 hR2 => gn ?_⟩
        have D17 := (D16.same w5).same s17
        have hR1 := (hR1.same w5).same s17
        obtain ⟨dx, x1, x2, x3, x4, _⟩ := id hR1.at_
        obtain ⟨dy, y1, y2, y3, y4, _⟩ := id hR2.at_
        refine st_eq [some (.ref p), some (.ref l), some (.int b), some (.ref D), some (.int (j : Nat)), some (.ref r), some (.ref l1), some (.ref l2), some (.ref r2), some (.ref Df), some (.ref te), some (.ref r3), some (.ref a10), some (.ref r4), none, none] rfl ?_
        have il1 := idle_len b us1
        have il2 := idle_len b us2
        refine ⟨_, rfl, r3, dx, _, rfl, x4, rfl, r3, us1, b, rfl, hR1, fun H18 ag1 s18 => ⟨_, rfl, r3, dx, _, rfl, s18 _ _ x4, rfl, r3, us1, b, rfl, hR1.same s18, fun q1 H19 nq1 _ s19 hq1 => ⟨q1, _, rfl, .inr (SqT.of hq1), (by show 2 ≤ sizeLine; decide), fun lt hlt => gn ?_⟩⟩⟩
        have eg : grV b us2 = grV b us1 := by
          unfold grV
          rw [Sl]
        have eI : (((idleL b us1).map V.int).length : Nat) = (idleL b us2).length := by rw [List.length_map]; exact Si
        have sh : ShE (.list [vD (grV b us1), .int ((idleL b us2).length : Nat)]) 2 300 := (ShE.list (D := 1) (N := 91) (fun d hd => by
          simp only [List.mem_cons, List.not_mem_nil, or_false] at hd
          rcases hd with rfl | rfl
          · exact (gr_opt ag1).sh
          · refine (ShE.int ?_).up (by decide) (by decide)
            have e : (10 : Nat) ^ 90 > 1000 := by decide
            omega)).up (Nat.le_refl _) (by show 2 * (91 + 2) + 3 ≤ 300; decide)
        have t20 := (s18.trans s19).trans (up (o := .lst [grV b us1, .int (((idleL b us1).map V.int).length : Nat)]) hlt)
        have h20 : (upd H19 lt (.lst [grV b us1, .int (((idleL b us1).map V.int).length : Nat)])) lt = some (.lst [grV b us1, .int ((idleL b us2).length : Nat)]) := by
          rw [← eI]
          exact upd_same
        refine hp_eq (upd H19 lt (.lst [grV b us1, .int (((idleL b us1).map V.int).length : Nat)])) rfl ?_
        generalize (upd H19 lt (.lst [grV b us1, .int (((idleL b us1).map V.int).length : Nat)])) = H20 at t20 h20 ⊢
        refine ⟨_, rfl, lt, .list [vD (grV b us1), .int ((idleL b us2).length : Nat)], rfl, .lst (SqL.of h20) (.cons (gr_opt ag1).dp (.cons (.int _) .nil)), sh.sho, sh.nod, Nat.le_trans sh.dep (by decide), Nat.le_trans sh.len (by decide), ?_⟩
        refine ⟨_, rfl, r4, dy, _, rfl, t20 _ _ y4, rfl, r4, us2, b, rfl, hR2.same t20, fun H21 ag2 s21 => ⟨_, rfl, r4, dy, _, rfl, (t20.trans s21) _ _ y4, rfl, r4, us2, b, rfl, hR2.same (t20.trans s21), fun q2 H22 nq2 _ s22 hq2 => ⟨q2, _, rfl, .inr (SqT.of hq2), (by show 2 ≤ sizeLine; decide), fun l3 hl3 => ?_⟩⟩⟩
        have t23 := (s21.trans s22).trans (up (o := .lst [grV b us2, .int (((idleL b us2).map V.int).length : Nat)]) hl3)
        have h23 : (upd H22 l3 (.lst [grV b us2, .int (((idleL b us2).map V.int).length : Nat)])) l3 = some (.lst [grV b us1, .int ((idleL b us2).length : Nat)]) := by
          rw [← eg, ← List.length_map (f := V.int) (as := idleL b us2)]
          exact upd_same
        refine tn_eq (upd H22 l3 (.lst [grV b us2, .int (((idleL b us2).map V.int).length : Nat)])) rfl ?_
        generalize (upd H22 l3 (.lst [grV b us2, .int (((idleL b us2).map V.int).length : Nat)])) = H23 at t23 h23 ⊢
        refine ⟨l3, .list [vD (grV b us1), .int ((idleL b us2).length : Nat)], rfl, .lst (SqL.of h23) (.cons (gr_opt ag1).dp (.cons (.int _) .nil)), sh.sho, sh.nod, Nat.le_trans sh.dep (by decide), Nat.le_trans sh.len (by decide), ?_⟩
        generalize (PyData.list [vD (grV b us1), PyData.int ((idleL b us2).length : Nat)]).shown = zz
        refine ⟨rfl, ?_⟩
        rw [decide_eq_true rfl]
        exact k _ ((D17.same t20).same t23)
end
/-! ### the law's own part -/
def spRightI53 (K : PySem.W.Frag) : Sp := fun vs H Q _ => ∃ (c : Int), vs = [.int c] ∧ LamX.Tabs (tabsOf K) H ∧ ∀ H', LamX.ExtN H H' → LamX.Tabs (tabsOf K) H' → Q (.bl true) H'
theorem tabs_drew {T : List (Addr × Str)} {p : Addr} {H H' : Hp} (hp : PurseAt H p) (d : Drew p H H') (t : LamX.Tabs T H) : LamX.Tabs T H' := fun q hq => by
  obtain ⟨_, _, _, e, _⟩ := hp
  obtain ⟨ps, h1, h2, h3⟩ := t q hq
  refine ⟨ps, d.kp _ _ (fun z => by rw [z, e] at h1; cases h1) h1, h2, fun pos cv hc => ?_⟩
  obtain ⟨c, e1, e2⟩ := h3 pos cv hc
  exact ⟨c, e1, d.kp _ _ (fun z => by rw [z, e] at e2; cases e2) e2⟩
theorem tabs_lst {T : List (Addr × Str)} {D : Addr} {H : Hp} {xs ys : List V} (hD : H D = some (.lst xs)) (t : LamX.Tabs T H) : LamX.Tabs T (upd H D (.lst ys)) := fun q hq => by
  obtain ⟨ps, h1, h2, h3⟩ := t q hq
  refine ⟨ps, by rw [upd_ne (fun z => by rw [z, hD] at h1; cases h1)]; exact h1, h2, fun pos cv hc => ?_⟩
  obtain ⟨c, e1, e2⟩ := h3 pos cv hc
  exact ⟨c, e1, by rw [upd_ne (fun z => by rw [z, hD] at e2; cases e2)]; exact e2⟩
section
variable {P : Program} {w : World} {K : PySem.W.Frag} {mg : Str → Option Value} {base : Heap}
theorem ok_L_right (T : Tx w K mg) (U : UT K mg base) : PromG P w K mg base 16 "_law_right" s_L_right ["_law_cell_here"] (spRightI53 K) := by
  refine PromG.of T.d_L_right sc_L_right (fun vs H Q E h => ?_) (fun _ _ _ _ _ _ us hl => match us, hl with | [_], _ => rfl) (fun f cdv A outer s H vs Q E hr hgd h => ?_)
  · obtain ⟨c, rfl, _⟩ := h
    rfl
  · obtain ⟨c, rfl, hT, k⟩ := h
    refine ⟨_, (pss_cons (ps_set (i := 1) sc_L_right.nd rfl (Or.inl rfl) (pe_callP (ok_L_pool T) (hr.mono (by decide)) (by rfl) pass0 (pa_cons (pv 0) pa_nil)))
      (pss_cons (ps_set (i := 2) sc_L_right.nd rfl (Or.inl rfl) (pe_callP (ok_L_radix T) (hr.mono (by decide)) (by rfl) pass0 (pa_cons (pv 1) pa_nil)))
      (pss_cons (ps_set (i := 3) sc_L_right.nd rfl (Or.inl rfl) (pe_callP (ok_L_length T) (hr.mono (by decide)) (by rfl) pass0 (pa_cons (pv 1) (pa_cons (pv 2) pa_nil))))
      (pss_cons (ps_set (i := 4) sc_L_right.nd rfl (Or.inl rfl) (pe_callP (ok_L_moves T) (hr.mono (by decide)) (by rfl) pass0 (pa_cons (pv 1) (pa_cons (pe_callP (ok_L_draw T) (hr.mono (by decide)) (by rfl) pass0 (pa_cons (pv 1) (pa_cons pe_int pa_nil))) (pa_cons (pv 2) (pa_cons (pv 3) pa_nil))))))
      (pss_cons (ps_set (i := 5) sc_L_right.nd rfl (Or.inl rfl) (pe_lst (pa_cons (pv 3) (pa_cons pe_int (pa_cons (pe_callP (ok_L_length T) (hr.mono (by decide)) (by rfl) pass0 (pa_cons (pv 1) (pa_cons (pv 2) pa_nil))) pa_nil)))))
      (pss_cons (ps_set (i := 6) sc_L_right.nd rfl (Or.inl rfl) (pe_callG (ok_L_told_of T) hgd (hr.mono (by decide)) (by rfl) (pa_cons (pe_callP (ok_L_track T) (hr.mono (by decide)) (by rfl) pass0 (pa_cons (pv 4) (pa_cons (pv 2) pa_nil))) (pa_cons (pv 5) pa_nil))))
      (pss_cons (ps_if (pt_cmpR op_ne (pe_callG (ok_L_told_of T) hgd (hr.mono (by decide)) (by rfl) (pa_cons (pe_callP (ok_L_at_once T) (hr.mono (by decide)) (by rfl) pass0 (pa_cons (pv 4) (pa_cons (pv 2) pa_nil))) (pa_cons (pv 5) pa_nil))) (pv 6) (nomark _)) (pss_one (ps_ret pe_bl)) pss_nil)
      (pss_cons (ps_if (pt_cmpR op_ne (pe_callG (ok_L_told_of T) hgd (hr.mono (by decide)) (by rfl) (pa_cons (pe_callP (ok_L_taken_back T) (hr.mono (by decide)) (by rfl) pass0 (pa_cons (pv 4) (pa_cons (pv 2) pa_nil))) (pa_cons (pv 5) pa_nil))) (pv 6) (nomark _)) (pss_one (ps_ret pe_bl)) pss_nil)
      (pss_cons (ps_if (pt_cmpR op_ne (pe_callG (ok_L_tried T U) hgd (hr.mono (by decide)) (by rfl) (pa_cons (pv 4) (pa_cons (pv 2) (pa_cons (pv 5) pa_nil)))) (pv 6) (nomark _)) (pss_one (ps_ret pe_bl)) pss_nil)
      (pss_one (ps_ret (pe_and (pe_callG (ok_L_moved_right T) hgd (hr.mono (by decide)) (by rfl) (pa_cons (pv 1) (pa_cons (pv 4) (pa_cons (pv 2) (pa_cons (pv 3) pa_nil))))) (pe_one (pe_callG (ok_L_twice_right T) hgd (hr.mono (by decide)) (by rfl) (pa_cons (pv 1) (pa_cons (pv 4) (pa_cons (pv 2) pa_nil))))))))))))))))), ?_⟩
    refine ⟨_, rfl, c, rfl, fun p H1 np s1 hp => gn ?_⟩
    refine ⟨_, rfl, p, rfl, hp, fun b H2 b0 b1 d2 => gn ?_⟩
    refine ⟨_, rfl, _, rfl, p, b, rfl, d2.at_, b0, b1, fun m H3 m0 m1 d3 => gn ?_⟩
    have d3 := d2.trans d3
    refine ⟨_, rfl, _, rfl, p, 8, rfl, d3.at_, by decide, by decide, fun n H4 n0 n1 d4 => ⟨_, rfl, _, rfl, ?_⟩⟩
    have d4 := d3.trans d4
    refine ⟨p, n, b, m, rfl, d4.at_, n0, by omega, b0, b1, m0, fun l xs ss H5 rb hlen nl d5 hl hm => gn ?_⟩
    have nlp : l ≠ p := d4.at_.ne nl
    have d5 := d4.trans d5
    refine ⟨_, rfl, _, rfl, _, rfl, p, b, rfl, d5.at_, b0, b1, fun m2 H6 m20 m21 d6 => ⟨(by show 3 ≤ sizeLine; decide), fun ln hln => gn ?_⟩⟩
    have v0 := up (o := .lst [V.int m, V.int 0, V.int m2]) hln
    have d7 := (d5.trans d6).new (o := .lst [V.int m, V.int 0, V.int m2]) hln
    have hl7 := v0 _ _ (d6.kp _ _ nlp hl)
    have hm7 := (hm.drew d6 d5.at_).same v0
    have hln7 : (upd H6 ln (.lst [V.int m, V.int 0, V.int m2])) ln = some (.lst ([m, 0, m2].map V.int)) := upd_same
    refine hp_eq (upd H6 ln (.lst [V.int m, V.int 0, V.int m2])) rfl ?_
    generalize (upd H6 ln (.lst [V.int m, V.int 0, V.int m2])) = H7 at d7 hl7 hm7 hln7 ⊢
    refine st_eq [some (.int c), some (.ref p), some (.int b), some (.int m), some (.ref l), some (.ref ln), none] rfl ?_
    have nl : [m, 0, m2].length ≤ 3 := Nat.le_refl 3
    have hn : ∀ x ∈ [m, 0, m2], 0 ≤ x ∧ x ≤ 10 ^ 60 - 1 := fun x hx => by
      simp only [List.mem_cons, List.not_mem_nil, or_false] at hx
      rcases hx with rfl | rfl | rfl
      · exact ⟨m0, m1⟩
      · exact ⟨by decide, by decide⟩
      · exact ⟨m20, m21⟩
    generalize [m, 0, m2] = ns at hln7 nl hn
    have D7 := d7
    refine ⟨_, rfl, _, rfl, l, xs, ss, b, rfl, hl7, hm7, rb, by omega, b0, b1, fun r H8 nr s8 hR => ⟨_, rfl, r, ln, b, ss, ns, rfl, hR, by omega, s8 _ _ hln7, nl, hn, fun v H9 pl s9 => gn ?_⟩⟩
    have S9 := s8.trans s9
    refine st_eq [some (.int c), some (.ref p), some (.int b), some (.int m), some (.ref l), some (.ref ln), some (.str (toldD b ss ns v).shown)] rfl ?_
    refine ⟨_, rfl, _, rfl, l, xs, ss, b, rfl, S9 _ _ hl7, hm7.same S9, rb, by omega, b0, b1, fun r2 H10 nr2 s10 hR2 => ⟨_, rfl, r2, ln, b, ss, ns, rfl, hR2, by omega, (S9.trans s10) _ _ hln7, nl, hn, fun v2 H11 pl2 s11 => ?_⟩⟩
    obtain rfl := pl_uniq pl2 pl
    have S11 := (S9.trans s10).trans s11
    refine ⟨_, rfl, rfl, _, rfl, ifn (fun z => absurd rfl z) (fun _ => ?_)⟩
    refine ⟨_, rfl, _, rfl, l, xs, ss, b, rfl, S11 _ _ hl7, hm7.same S11, rb, by omega, b0, b1, fun r3 H12 nr3 s12 hR3 => ⟨_, rfl, r3, ln, b, ss, ns, rfl, hR3, by omega, (S11.trans s12) _ _ hln7, nl, hn, fun v3 H13 pl3 s13 => ?_⟩⟩
    obtain rfl := pl_uniq pl3 pl
    have S13 := (S11.trans s12).trans s13
    refine ⟨_, rfl, rfl, _, rfl, ifn (fun z => absurd rfl z) (fun _ => ?_)⟩
    have T13 := (tabs_drew hp d7 (hT.ext s1)).ext S13
    have e13 : LamX.ExtN H H13 := fun x o h _ => S13 _ _ (d7.kp _ _ (fun z => by rw [z, np] at h; cases h) (s1 _ _ h))
    refine ⟨_, rfl, _, rfl, _, rfl, l, ln, xs, ss, b, ns, rfl, S13 _ _ hl7, hm7.same S13, rb, by omega, b0, b1, S13 _ _ hln7, nl, hn, T13, fun v4 H14 pl4 e14 T14 => ?_⟩
    obtain rfl := pl_uniq pl4 pl
    refine ⟨_, rfl, rfl, _, rfl, ifn (fun z => absurd rfl z) (fun _ => ?_)⟩
    have hp14 : PurseAt H14 p := by
      obtain ⟨x, y, z, e, rest⟩ := (d7.same S13).at_
      exact ⟨x, y, z, e14 _ _ e (fun ps z => by cases z), rest⟩
    have hl14 := e14 _ _ (S13 _ _ hl7) (fun ps z => by cases z)
    have hm14 := (hm7.same S13).ext e14
    have E14 : LamX.ExtN H H14 := fun x o h t => e14 _ _ (e13 _ _ h t) t
    refine ⟨_, rfl, _, rfl, _, rfl, _, rfl, p, l, xs, ss, b, m, rfl, hp14, nlp, hl14, hm14, rb, by omega, b0, b1, m0, m1, fun H15 d15 => ⟨true, rfl, ?_⟩⟩
    refine ⟨_, rfl, _, rfl, _, rfl, p, l, xs, ss, b, rfl, d15.at_, nlp, d15.kp _ _ nlp hl14, hm14.drew d15 hp14, rb, by omega, b0, b1, fun H16 d16 => ?_⟩
    exact k _ (fun x o h t => (d15.trans d16).kp _ _ (fun z => by rw [z, np] at h; cases h) (E14 _ _ h t)) (tabs_drew hp14 (d15.trans d16) T14)
end
theorem sqL_ext {K : PySem.W.Frag} {H H' : Hp} {a : Addr} {xs : List V} (s : LamX.ExtN H H') (h : SqL K H a xs) : SqL K H' a xs := by
  rcases h with (h | ⟨o, h⟩) | h
  · exact .inl (.inl (s _ _ h (fun ps z => by cases z)))
  · exact .inl (.inr ⟨o, s _ _ h (fun ps z => by cases z)⟩)
  · exact .inr h
section
variable {P : Program} {w : World} {K : PySem.W.Frag} {mg : Str → Option Value} {base : Heap}
theorem ok_law (T : Tx w K mg) (U : UT K mg base) : PromG P w K mg base 17 "law" s_law ["_law_cells"] (spLaw K) := by
  refine PromG.of T.d_law sc_law (fun vs H Q E h => ?_) (fun _ _ _ _ _ _ us hl => match us, hl with | [_], _ => rfl) (fun f cdv A outer s H vs Q E hr hgd h => ?_)
  · obtain ⟨a, ns, rfl, _⟩ := h
    rfl
  · obtain ⟨a, ns, rfl, hS, hl, hz, hT, k⟩ := h
    refine ⟨_, (pss_one (ps_ret (pe_callB (cr_all rfl) (by rfl) T.b_all (by decide +kernel) (pa_cons (pe_lc (own := [("_law_k", 1)]) (g := (gName 1)) (tt := tYes) (by rfl) sc_law.nd (pi_range1 (by rfl) T.b_range (pa_cons (pe_callB (call_max2 rfl) (by rfl) T.b_max (by decide +kernel) (pa_cons pe_int (pa_cons (pe_callB (call_min2 rfl) (by rfl) T.b_min (by decide +kernel) (pa_cons (pe_callB call_len_seq (by rfl) T.b_len (by decide +kernel) (pa_cons (pv 0) pa_nil)) (pa_cons pe_int pa_nil))) pa_nil))) pa_nil)) (blkOk_by (own := [("_law_k", 1)]) (N := ["_law_cells", "_law_k"]) (sc := defScope s_law) (by decide +kernel)) (fun _ _ _ _ _ => (pg_name (i := 1) sc_law.nd rfl (Or.inl rfl))) (fun _ _ _ _ _ => pts_nil) (fun _ _ _ _ _ => (pe_callG (ok_L_right T U) hgd (hr.mono (by decide)) (by rfl) (pa_cons (pe_callP (ok_L_cell T) (hr.mono (by decide)) (by rfl) pass0 (pa_cons (pv 0) (pa_cons (pv 1) pa_nil))) pa_nil)))) pa_nil)))), ?_⟩
    have e1 : LamX.ExtN H H := fun b o h tb => h
    refine ⟨_, rfl, _, _, rfl, .inl hS, _, _, rfl, _, _, rfl, _, rfl, ?_, ?_, fun D hD => ?_⟩
    · split <;> split <;> omega
    · split <;> split <;> omega
    refine lc_range (lo := 0) (Pv := fun i H' => LamX.ExtN H H' ∧ LamX.Tabs (tabsOf K) H' ∧ H' D = some (.lst (List.replicate i (.bl true)))) ⟨.of (up hD), hT.ext (up hD), upd_same⟩ ?_ ?_
    · rintro i H' hi ⟨hs, ht, hl2⟩
      refine ⟨rfl, _, rfl, _, rfl, a, ns, _, rfl, sqL_ext hs hS, by omega, ?_, fun z => ?_⟩
      · rw [List.length_map] at hi
        split at hi <;> split at hi <;> omega
      refine ⟨z, rfl, ht, fun H4 e4 t4 => ?_⟩
      have h4 : H4 D = some (.lst (List.replicate i (.bl true))) := e4 _ _ hl2 (fun ps z => by cases z)
      refine ⟨_, h4, ?_, fun b o e tb => ?_, tabs_lst h4 t4, ?_⟩
      · rw [List.length_replicate]
        rw [List.length_map] at hi
        refine Nat.lt_of_lt_of_le (m := 100) ?_ (by decide)
        split at hi <;> split at hi <;> omega
      · rw [upd_ne (ne_of_none e hD)]
        exact e4 _ _ (hs _ _ e tb) tb
      · rw [upd_same, List.replicate_succ']
    · rintro H' ⟨hs, ht, hl2⟩
      refine ⟨D, List.replicate _ true, rfl, SqL.of (by rw [List.map_replicate]; exact hl2), ?_⟩
      have e : ∀ n : Nat, (List.replicate n true).all id = true := fun n => by simp
      show Q (.bl ((List.replicate _ true).all id)) H'
      rw [e]
      exact k _
end
theorem facts {P : Program} {w : World} {K : PySem.W.Frag} {h : Heap} {mg : Str → Option Value} {f : Addr} (X : K.In h) (G : h.Ns mainGlobals mg) (hfa : mg ("law" : Str) = some (.ref f)) (c0 : SaysX fbL faL fnL tabL w K) :
    ∃ fd : FuncData, (∀ (s : Shared) (v : Value), BindsTo s fd ⟨[v], []⟩ [("_law_cells", v)]) ∧ ∀ base : Heap, K.In base → base.Ns mainGlobals mg → UT K mg base → FnG P w K mg base 17 f fd ["_law_cells"] (spLaw K) := by
  have T := tx_of (w := w) X G c0
  have c : He.SaysD faL fnL K := c0.t.d
  obtain ⟨fd, F⟩ := c.def_ 54 (d := dd_law) rfl
  have hm := He.glo_ok X G (c.fact 54 (f := .glo "law") rfl)
  have e := hfa.symm.trans hm
  cases e
  have b := FunD.bindsA (ps := ["_law_cells"]) F fun _ _ _ _ _ _ us hl => match us, hl with | [_], _ => rfl
  refine ⟨fd, fun s v => b s [v] rfl, fun base _ _ U => ?_⟩
  obtain ⟨f', fd', F', hm', D', _⟩ := (ok_law (P := P) (w := w) (base := base) T U).ex
  cases hm.symm.trans hm'
  have efd : fd' = fd := by
    obtain ⟨_, _, _, _, _, _, _, _, _, _, _, l1, _⟩ := F.ex
    obtain ⟨_, _, _, _, _, _, _, _, _, _, _, l2, _⟩ := D'.ex
    have l2' := l2.symm.trans l1
    injection l2' with l3
    injection l3 with _ _ l4 _
    injection l4
  rw [← efd]
  exact F' 
end Sz
open PySem PySem.W PySem.Calls PyProof.Rows in
set_option maxRecDepth 100000 in
set_option maxHeartbeats 0 in
theorem PySem.Challenge.cw_sizestacks_k53_whole_roads_replayed_holds : PySem.Challenge.rw_sizestacks_k53_whole_roads_replayed.Holds := by
  w_on; o_law
  refine HandSHeadRun.head_any (r := OpenLaw.row PySem.Challenge.rw_sizestacks_k53_whole_roads_replayed) (q := view (OpenLaw.row PySem.Challenge.rw_sizestacks_k53_whole_roads_replayed).prog [95]) (H := Sz.hk) (ob := Sz.ob) (M := 30000) (loose := Sz.looseL) (d := HandSHeadRun.topDef (OpenLaw.row PySem.Challenge.rw_sizestacks_k53_whole_roads_replayed).prog 95) (kwd := []) Sz.ob_eq
    (by kernel_rfl) (fun z => by kernel_rfl) Sz.run (by kernel_rfl) (by kernel_rfl) (by kernel_rfl) (by rfl) (by first | assumption | decide +kernel) (by decide +kernel) ⟨rfl, rfl, rfl, rfl, rfl, by decide +kernel⟩ ?hw ?hc
  case hw => w_witness2
  case hc =>
    refine Sz.walk_ofGT (l := PySem.Challenge.rw_sizestacks_k53_whole_roads_replayed) (n := 63) (k := 17) (x := "_law_cells") rfl (by decide) (by kernel_rfl) ⟨rfl, by decide, by decide⟩ ?F
    intro w mg fa h Y G hmg0
    obtain ⟨K, KX, c⟩ := Y
    have hmg : mg ("law" : PySem.Str) = some (.ref fa) := by
      have e : (HandSHeadRun.topDef (OpenLaw.row PySem.Challenge.rw_sizestacks_k53_whole_roads_replayed).prog 95).name = ("law" : PySem.Str) := by kernel_rfl
      rw [← e]
      exact hmg0
    obtain ⟨fd, hb, hF⟩ := Sz.facts (P := (PySem.Challenge.rw_sizestacks_k53_whole_roads_replayed).prog) (w := w) KX G hmg c.x
    have inT : ∀ p ∈ Sz.tfL.map (He.cT K), ∃ d ∈ Sz.tfL, He.cT K d = p := fun p hp => List.mem_map.mp hp
    refine ⟨K, fd, Sz.spLaw K, Sz.tfL.map (He.cT K), KX, fun p hp => ?_, fun p hp => ?_, fun p hp => ?_, hb, fun H a ns hl hz hT hS => ⟨a, ns, rfl, hS, hl, hz, Sz.tabs_start hT, fun _ => rfl⟩, hF⟩
    · obtain ⟨d, hd, rfl⟩ := inT p hp
      exact c.empty d hd
    · obtain ⟨d, hd, rfl⟩ := inT p hp
      exact c.out d hd
    · obtain ⟨d, hd, rfl⟩ := inT p hp
      exact PySem.W.codeHd_of_K KX (c.hd d hd)
