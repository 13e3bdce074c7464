import PyProof.Rows.All
import Wide.All
import OpenK.AllK
import Wide.FinOn
import KE.KStateDown
import HandS.ForMost
import HandS.Exc
import HandS.Wide
import HandS.WideBits
import HandS.IsInst
import HandS.Style
import HandS.RaiseMore
import HandS.Defaults
import HandS.Evl
import HandS.EndBits
import HandS.Words
import HandS.WordsExc
import HandS.Head0
import HandS.Head1
import HandS.Head2
import HandS.HeadEnd
import HandS.HeadHook1
import HandS.HeadHook2
import HandS.HeadHook3
import HandS.Star
import HandS.FStr
import HandS.Text
import HandS.Walk
import KE.GoesMore
import PyProof.LongRange
import HandS.Conv
import PyProof.StrLawsRepr
import PyProof.InstSpecial
import HandS.OwnEq
import KE.KFmtOwn
import PyProof.InstNe
import HandS.ExcInit
import HandS.HotCalls
import HandS.ExcIs
import HandS.ExcField
import KE.KTryMore
import KE.KExcInit
import HandS.SetFor
import HandS.EndTab
import HandS.HeadHook4
import HandS.DeepEq
import PySem.Challenge.RW_sizestacks_k65_whole_all_that_have_two
set_option Elab.async false
set_option linter.all false
set_option maxRecDepth 100000
set_option maxHeartbeats 4000000
set_option exponentiation.threshold 20000
/-! Own base: a def by its promise, a few rules more. -/
namespace Sz
open PySem PySem.Spec PyProof.Rows L2

/-- a def of the text, by its name -/
def DefAt (K : PySem.W.Frag) (mg : Str → Option Value) (x : Str) (st : Stmt) : Prop :=
  ∃ f fd, FunD K x x (defArgs st) (defBody st) (defScope st) [] [] f fd ∧ mg x = some (.ref f)

/-- the def named x keeps the promise sp -/
structure Prom (P : Program) (w : World) (K : PySem.W.Frag) (mg : Str → Option Value) (base : Heap) (CX : CXT) (k : Nat) (x : Str) (st : Stmt) (ps : List Str) (sp : Sp) : Prop where
  ex : ∃ f fd, FnOk P w K mg base CX k f fd ps sp ∧ mg x = some (.ref f) ∧ FunD K x x (defArgs st) (defBody st) (defScope st) [] [] f fd ∧ Binds K fd ps []

section
variable {P : Program} {w : World} {K : PySem.W.Frag} {mg : Str → Option Value} {base : Heap}
theorem Prom.of {x : Str} {st : Stmt} {ps N : List Str} {sp : Sp} {k : Nat} (D : DefAt K mg x st) (S : FnScope N ps (defScope st)) (len : ∀ vs H Q E, sp vs H Q E → vs.length = ps.length)
    (hb : ∀ (kV doc pm : Value) (an : Option Addr) (cdv ct : Value) (us : List Value), us.length = ps.length → bindArgs (PySem.W.fnOf x x (defArgs st) (defBody st) (defScope st) .none kV doc pm an cdv ct) ⟨us, []⟩ = pure (ps.zip us))
    (hbody : ∀ (f : Addr) (cdv : Value) (A : Around) (outer : List Env) (s : Shared) (H : Hp) (vs : List V) (Q : VK) (E : XK), Room k (A.deeper (envOfC x (defScope st) s.heap.objs.size f cdv)) → sp vs H Q E →
      ∃ t, PSs (cxOf CX0 P w K mg base N x (defScope st) f cdv A outer s H E).nox (defBody st) t ∧ t { nx := fun _ H' => Q .non H', rt := Q } (start N vs) H) :
    Prom P w K mg base CX0 (k + 1) x st ps sp := by
  obtain ⟨f, fd, F, hm⟩ := D
  refine ⟨f, fd, F.ok S len (fun cdv A outer s H vs Q E hr hs => ?_), hm, F, F.bindsN hb⟩
  obtain ⟨t, h1, h2⟩ := hbody f cdv A outer s H vs Q E hr hs
  exact ⟨t, h1.nox, h2⟩
end

section
variable {X : Cx} {CX : CXT} {k : Nat} {x : Str} {st : Stmt} {ps : List Str} {sp : Sp} {E : XK} {e : Expr} {es : List Expr} {t tk : TA} {p pos : Pos} {kws : List Keyword} {ks : List Str}
theorem pe_callP (G : Prom X.prog X.w X.K X.mg X.base CX k x st ps sp) (hr : Room k X.A) (hg : Gl X x) (hx : Passes CX X E) (ha : PA X (e :: es) t)
    (hdb : (x == ("__debug__" : Str)) = false := by decide) (he : starEach (e :: es) X.env = (false, eval e X.env) :: starEach es X.env := by rfl) (hpl : (backTo pos (starEach es X.env)).any (·.1) = false := by rfl) :
    PE X (.Call (.Name x p) (e :: es) [] pos) (tCall sp [] E t) := by
  obtain ⟨f, fd, F, hm, D, hb⟩ := G.ex
  exact pe_call F hr hg hm D.kp hb .nil hx ha hdb he hpl
/-- f(k = v, ..), keywords alone -/
theorem pe_callKP {g : List Value → List Value → List Value} {gV : List V → List V → List V} (G : Prom X.prog X.w X.K X.mg X.base CX k x st ps sp) (hr : Room k X.A) (hg : Gl X x) 
    (hb : ∀ fd f, FunD X.K x x (defArgs st) (defBody st) (defScope st) [] [] f fd → KBinds X.K fd ps ks g gV) (hx : Passes CX X E)
    (hkw : PK X kws tk) (hall : (backToKw pos (keywordEach kws X.env)).all (·.1.isSome) = true := by rfl) (hks : (backToKw pos (keywordEach kws X.env)).filterMap (·.1) = ks := by rfl)
    (hdb : (x == ("__debug__" : Str)) = false := by decide)
    (hpl : ((backTo pos (starEach [] X.env)).any (·.1) || (backToKw pos (keywordEach kws X.env)).any (·.1.isNone)) = false := by rfl) :
    PE X (.Call (.Name x p) [] kws pos) (tCallK sp gV E tNil tk) := by
  obtain ⟨f, fd, F, hm, D, _⟩ := G.ex
  have hb := hb fd f D
  refine ⟨fun pins s σ H Q I h => ?_⟩
  refine wpAny_Call_Name_kw (ld_glob I hg hm ?_ hdb)
  refine PySem.W.callWith_KW0 (h₀ := X.base) I.ok.mod.kin D.kp hall (thn (hkw.run pos pins s σ H _ I h) fun ws s2 z => ?_) hpl
  obtain ⟨zs, H2, I2, rz, q2⟩ := z
  refine ⟨I2.kIn, ?_⟩
  rw [hks]
  exact run_fnk F hr hb hx I2 .nil rz q2
/-- the keywords' values put in the parameters' order -/
def perm {α : Type} (ix : List Nat) (us ws : List α) : List α := match us with
  | [] => if ws.length = ix.length then ix.filterMap fun i => ws[i]? else []
  | _ :: _ => []
theorem perm_vals {ix : List Nat} {vs zs : List V} {us ws : List Value} (r : Vals vs us) (z : Vals zs ws) : Vals (perm ix vs zs) (perm ix us ws) := by
  cases r with
  | cons _ _ => exact .nil
  | nil =>
    show Vals (if zs.length = ix.length then _ else _) (if ws.length = ix.length then _ else _)
    rw [z.length]
    by_cases c : ws.length = ix.length
    · rw [if_pos c, if_pos c]
      clear c
      induction ix with
      | nil => exact .nil
      | cons i ix ih =>
        rw [List.filterMap_cons, List.filterMap_cons]
        cases e : zs[i]? with
        | none =>
          rw [z.none_of e]
          exact ih
        | some v =>
          obtain ⟨u, hu, rv⟩ := z.get e
          rw [hu]
          exact .cons rv ih
    · rw [if_neg c, if_neg c]
      exact .nil
theorem kb_of {K : PySem.W.Frag} (ix : List Nat) (hne : 0 < ps.length)
    (h : ∀ (kV doc pm : Value) (an : Option Addr) (cdv ct : Value) (ws : List Value), ws.length = ix.length → bindArgs (PySem.W.fnOf x x (defArgs st) (defBody st) (defScope st) .none kV doc pm an cdv ct) ⟨[], ks.zip ws⟩ = pure (ps.zip (perm ix [] ws))) :
    ∀ fd f, FunD K x x (defArgs st) (defBody st) (defScope st) [] [] f fd → KBinds K fd ps ks (perm ix) (perm ix) := fun fd f F => by
  obtain ⟨oc, od, dV, kV, doc, pm, an, cdv, ct, osl, rfl, lk, hcd, hD, hK⟩ := F.ex
  rcases hD with ⟨_, rfl⟩ | ⟨e, _⟩
  · refine ⟨fun s us ws _ hl => ?_, fun r z => perm_vals r z⟩
    cases us with
    | cons u us =>
      have e0 : (perm ix (u :: us) ws).length = 0 := rfl
      omega
    | nil =>
      by_cases c : ws.length = ix.length
      · exact .of_eq (h kV doc pm an cdv ct ws c)
      · have e0 : perm ix [] ws = [] := if_neg c
        rw [e0] at hl
        simp at hl
        omega
  · exact absurd rfl e
/-- a constant of the module -/
theorem pe_gint {v : Int} (h : ∃ u, X.mg x = some (.int v u)) (hg : Gl X x := by rfl) (hd : (x == ("__debug__" : Str)) = false := by decide) : PE X (.Name x pos) (tC (.int v)) := by
  obtain ⟨u, hm⟩ := h
  exact pe_glob hg hm ⟨_, rfl⟩ hd
theorem op_isnotBl : OpR X (compareOp .IsNot) (fun x y H Q => ∃ b : Bool, y = .bl b ∧ Q (.bl (!decide (x = .bl b))) H) := by
  intro pins s σ H x y v u Q I rx ry h
  obtain ⟨b, rfl, q⟩ := h
  cases (show u = Value.bool b from ry)
  have key : plainIs v (Value.bool b) = true ∧ (v = Value.bool b ↔ x = .bl b) := by
    cases x with
    | non => cases (show v = Value.none from rx); exact ⟨rfl, by constructor <;> intro z <;> cases z⟩
    | bl c => cases (show v = Value.bool c from rx); exact ⟨rfl, by constructor <;> intro z <;> cases z <;> rfl⟩
    | int i => obtain ⟨t, rfl⟩ := (show ∃ t, v = Value.int i t from rx); exact ⟨rfl, by constructor <;> intro z <;> cases z⟩
    | str i => obtain ⟨t, rfl⟩ := (show ∃ t, v = Value.str i t from rx); exact ⟨rfl, by constructor <;> intro z <;> cases z⟩
    | byt i => obtain ⟨t, rfl⟩ := (show ∃ t, v = Value.bytes i t from rx); exact ⟨rfl, by constructor <;> intro z <;> cases z⟩
    | flt i => obtain ⟨t, rfl⟩ := (show ∃ t, v = Value.float i t from rx); exact ⟨rfl, by constructor <;> intro z <;> cases z⟩
    | ref a => cases (show v = Value.ref a from rx); exact ⟨rfl, by constructor <;> intro z <;> cases z⟩
    | ty n => cases (show v = Value.type n from rx); exact ⟨rfl, by constructor <;> intro z <;> cases z⟩
  by_cases e : x = .bl b
  · have ev := key.2.mpr e
    subst ev
    exact wpAny_isNot_self rfl ⟨.bl false, H, I, rfl, by simpa [e] using q⟩
  · exact wpAny_isNot_other key.1 (fun z => e (key.2.mp z)) ⟨.bl true, H, I, rfl, by simpa [e] using q⟩
/-- repr of a flat value -/
def flatShown : V → Option Str
  | .non => some "None"
  | .bl b => some (if b then "True" else "False")
  | .int i => if i.natAbs.log2 < 1920 then some (toString i) else none
  | _ => none
theorem cr_repr : CallR X (.builtin "repr") (fun xs H Q => ∃ v z, xs = [v] ∧ flatShown v = some z ∧ Q (.str z) H) := by
  intro pins s σ H xs us Q I r h
  obtain ⟨v, z, rfl, hz, q⟩ := h
  obtain ⟨u, rfl, ru⟩ := vals1 r
  cases v with
  | non =>
    cases (show u = Value.none from ru)
    obtain rfl : ("None" : Str) = z := Option.some.inj hz
    exact PySem.P.repr_of_none ⟨.str _, H, I.tok _, ⟨_, rfl⟩, q⟩
  | bl b =>
    cases (show u = Value.bool b from ru)
    obtain rfl : (if b then "True" else "False" : Str) = z := Option.some.inj hz
    exact PySem.P.repr_of_bool ⟨.str _, H, I.tok _, ⟨_, rfl⟩, q⟩
  | int i =>
    obtain ⟨t, rfl⟩ := (show ∃ t, u = Value.int i t from ru)
    have hz2 : (if i.natAbs.log2 < 1920 then some (toString i : Str) else none) = some z := hz
    by_cases c : i.natAbs.log2 < 1920
    · rw [if_pos c] at hz2
      obtain rfl := Option.some.inj hz2
      exact PySem.P.repr_of_int c ⟨.str _, H, I.tok _, ⟨_, rfl⟩, q⟩
    · rw [if_neg c] at hz2
      cases hz2
  | _ => cases hz
/-- a power of any size that the model takes -/
def CPowW (i j : Int) : Prop := 1 < i ∧ 0 < j ∧ ∃ n : Nat, i.natAbs < 2 ^ n ∧ (n : Int) * j ≤ 134217728
theorem op_powW : OpR X (binaryOp .Pow) (rI CPowW fun i j => .int (i ^ j.toNat)) := opI fun i j t u s Q E hc q => by
  obtain ⟨h1, h2, n, h3, h4⟩ := hc
  have hb : ¬ Builtin.Int.intTooBig (((Builtin.Int.intBits i : Nat) : Int) * j) = true := by
    have e : bitsLine = 134217728 := by decide
    have b := PyProof.Rows.intBits_le h3
    have m : ((Builtin.Int.intBits i : Nat) : Int) * j ≤ (n : Int) * j := Int.mul_le_mul_of_nonneg_right (by omega) (by omega)
    unfold Builtin.Int.intTooBig
    rw [decide_eq_true_eq, e]
    omega
  refine PySem.AutoIntOps.pow_4 (by omega) (by simpa using (show ¬ j = 0 by omega)) (by simpa using (show ¬ i = 0 ∧ ¬ i = 1 by omega)) (by simpa using (show ¬ i = -1 by omega)) hb ?_
  exact q
/-- divmod by a positive number of at most 30 figures -/
theorem divp_small {i j : Int} (h : 0 < j) (h2 : j ≤ 1000000000000000000000000000000) : CDivP i j := by
  refine ⟨h, PyProof.noPylong_of_log2 ?_⟩
  have h3 : j.natAbs < 2 ^ 200 := Nat.lt_of_le_of_lt (show j.natAbs ≤ 1000000000000000000000000000000 by omega) (by decide)
  exact Nat.lt_of_lt_of_le (PySem.Flt.log2_lt_of (by decide) h3) (by decide)
end
/-! ### what an if's test says -/
theorem ifd {c A B : Prop} [Decidable c] (h1 : c → A) (h2 : ¬ c → B) : if decide c = true then A else B := by
  by_cases h : c
  · rw [decide_eq_true h, if_pos rfl]; exact h1 h
  · rw [decide_eq_false h, if_neg Bool.false_ne_true]; exact h2 h
theorem ifd_pos {c A B : Prop} [Decidable c] (h : c) (hA : A) : if decide c = true then A else B := by
  rw [decide_eq_true h, if_pos rfl]; exact hA
theorem ifd_neg {c A B : Prop} [Decidable c] (h : ¬ c) (hB : B) : if decide c = true then A else B := by
  rw [decide_eq_false h, if_neg Bool.false_ne_true]; exact hB
theorem ifn {c A B : Prop} [Decidable c] (h1 : ¬ c → A) (h2 : c → B) : if (!decide c) = true then A else B := by
  by_cases h : c
  · rw [decide_eq_true h]; exact h2 h
  · rw [decide_eq_false h]; exact h1 h
/-- all but p stands as it stood -/
def Kp (p : Addr) (H H' : Hp) : Prop := ∀ b o, b ≠ p → H b = some o → H' b = some o
theorem Kp.refl (p : Addr) (H : Hp) : Kp p H H := fun _ _ _ h => h
theorem Kp.trans {p : Addr} {H H1 H2 : Hp} (a : Kp p H H1) (b : Kp p H1 H2) : Kp p H H2 := fun c o n h => b c o n (a c o n h)
theorem Kp.set {p : Addr} {H H' : Hp} {o : HO} (a : Kp p H H') : Kp p H (L2.upd H' p o) := fun b u n h => by
  rw [upd_ne n]
  exact a b u n h
theorem Kp.new {p q : Addr} {H H' : Hp} {o : HO} (a : Kp p H H') (h : H' q = none) : Kp p H (upd H' q o) := fun b u n e => by
  have e2 := a b u n e
  rw [upd_ne (ne_of_none e2 h)]
  exact e2
end Sz
namespace Sz
open PySem PySem.Spec PyProof.Rows L2
/-! ### defs that show containers: nothing is being shown around their call -/
structure FnG (P : Program) (w : World) (K : PySem.W.Frag) (mg : Str → Option Value) (base : Heap) (k : Nat) (f : Addr) (fd : FuncData) (ps : List Str) (sp : Sp) : Prop where
  len : ∀ vs H Q E, sp vs H Q E → vs.length = ps.length
  run : ∀ (A : Around) (outer : List Env) (s : Shared) (H : Hp) (args : Args) (us : List Value) (vs : List V) (Q : VK) (E : XK), Room k A → A.guards = some [] → Env0 P w K mg base A outer s H →
    BindsTo s fd args (ps.zip us) → Vals vs us → sp vs H Q E → codeAny (model P w) A (.call (.ref f) args) (CR CX0 outer P w H s Q E) s
theorem FnG.of {P : Program} {w : World} {K : PySem.W.Frag} {mg : Str → Option Value} {base : Heap} {k : Nat} {f : Addr} {fd : FuncData} {ps : List Str} {sp : Sp} (F : FnOk P w K mg base CX0 k f fd ps sp) : FnG P w K mg base k f fd ps sp :=
  ⟨F.len, fun A outer s H args us vs Q E hr _ e0 hb r h => F.run A outer s H args us vs Q E hr e0 hb r h⟩
/-- from the body -/
theorem fnG_of {P : Program} {w : World} {K : PySem.W.Frag} {mg : Str → Option Value} {base : Heap} {k : Nat} {f : Addr} {x q : Str} {pr : Arguments} {bd : List Stmt} {sc : Scope} {dvs : List V} {kws : List (Str × V)} {fd : FuncData} {N ps : List Str} {sp : Sp}
    (F : FunD K x q pr bd sc dvs kws f fd) (S : FnScope N ps sc) (len : ∀ vs H Q E, sp vs H Q E → vs.length = ps.length)
    (hbody : ∀ (cdv : Value) (A : Around) (outer : List Env) (s : Shared) (H : Hp) (vs : List V) (Q : VK) (E : XK), Room k (A.deeper (envOfC q sc s.heap.objs.size f cdv)) → (A.deeper (envOfC q sc s.heap.objs.size f cdv)).guards = some [] → sp vs H Q E →
      ∃ t, PSs (cxOf CX0 P w K mg base N q sc f cdv A outer s H E).nox bd t ∧ t { nx := fun _ H' => Q .non H', rt := Q } (start N vs) H) : FnG P w K mg base (k + 1) f fd ps sp := by
  obtain ⟨c1, c2, c3, c4, c5, c6, c7, cdv, c9, c10, rfl, look, code, _, _⟩ := F.ex
  refine ⟨len, fun A outer s H args us vs Q E room gd e0 hbind rel want => ?_⟩
  have old : ∀ b o, base.get? b = some o → s.heap.get? b = some o := fun b o e => (e0.bs b o e).1
  have inK : K.In s.heap := e0.mod.kin.keeps old
  have kinds : ∀ y ∈ ps.zip us, sc.names.lookup y.1 = some .local ∨ (sc.names.lookup y.1 = some .cell ∧ ((cellsFrom (s.heap.objs.size + 1) sc.names []).lookup y.1).isSome = true) := by
    rintro ⟨n, v⟩ hy
    have hm : n ∈ ps := (List.of_mem_zip hy).1
    cases S.par n hm with
    | inl z => exact Or.inl z
    | inr z => exact Or.inr ⟨z, PySem.W.cellsFrom_some _ _ _ (.inl z)⟩
  obtain ⟨t, dt, rt⟩ := hbody cdv A outer s H vs Q E (room.deeper _) gd want
  have dt := dt.nox
  refine codeAny_call_function room.depth (inK _ _ look) rfl S.co S.gen rfl (PySem.W.codeRec_of inK code) ?_
  refine hbind _ _ _ _ (wpAny_newFunctionEnv_cells S.kind kinds ?_)
  rintro _ rfl s1 ic
  refine ⟨(e0.mod.nolimit.keeps old).keeps ic.toInCall.keep, codeAny_func ?_⟩
  refine wpAny_mono (dt.run [] s1 (start N vs) H _ (inv_start S room.hd e0 (len _ _ _ _ want) rel ic) rt) ?_ (fun _ _ z => z)
  intro fl s' hs
  cases fl with
  | ret u => exact let ⟨v, _, H', J, rv, qv⟩ := hs; ⟨v, H', J.os, J.bare, J.base, J.hok, rv, qv⟩
  | next => exact let ⟨_, H', J, qv⟩ := hs; ⟨.non, H', J.os, J.bare, J.base, J.hok, rfl, qv⟩
  | brk => exact let ⟨_, _, _, qv⟩ := hs; False.elim qv
  | cont => exact let ⟨_, _, _, qv⟩ := hs; False.elim qv
/-- the def named x keeps the promise sp where nothing is being shown -/
structure PromG (P : Program) (w : World) (K : PySem.W.Frag) (mg : Str → Option Value) (base : Heap) (k : Nat) (x : Str) (st : Stmt) (ps : List Str) (sp : Sp) : Prop where
  ex : ∃ f fd, FnG P w K mg base k f fd ps sp ∧ mg x = some (.ref f) ∧ FunD K x x (defArgs st) (defBody st) (defScope st) [] [] f fd ∧ Binds K fd ps []
section
variable {P : Program} {w : World} {K : PySem.W.Frag} {mg : Str → Option Value} {base : Heap}
theorem PromG.of {x : Str} {st : Stmt} {ps N : List Str} {sp : Sp} {k : Nat} (D : DefAt K mg x st) (S : FnScope N ps (defScope st)) (len : ∀ vs H Q E, sp vs H Q E → vs.length = ps.length)
    (hb : ∀ (kV doc pm : Value) (an : Option Addr) (cdv ct : Value) (us : List Value), us.length = ps.length → bindArgs (PySem.W.fnOf x x (defArgs st) (defBody st) (defScope st) .none kV doc pm an cdv ct) ⟨us, []⟩ = pure (ps.zip us))
    (hbody : ∀ (f : Addr) (cdv : Value) (A : Around) (outer : List Env) (s : Shared) (H : Hp) (vs : List V) (Q : VK) (E : XK), Room k (A.deeper (envOfC x (defScope st) s.heap.objs.size f cdv)) → (A.deeper (envOfC x (defScope st) s.heap.objs.size f cdv)).guards = some [] → sp vs H Q E →
      ∃ t, PSs (cxOf CX0 P w K mg base N x (defScope st) f cdv A outer s H E).nox (defBody st) t ∧ t { nx := fun _ H' => Q .non H', rt := Q } (start N vs) H) :
    PromG P w K mg base (k + 1) x st ps sp := by
  obtain ⟨f, fd, F, hm⟩ := D
  exact ⟨f, fd, fnG_of F S len (fun cdv A outer s H vs Q E hr hg hs => hbody f cdv A outer s H vs Q E hr hg hs), hm, F, F.bindsN hb⟩
theorem Prom.g {x : Str} {st : Stmt} {ps : List Str} {sp : Sp} {k : Nat} (G : Prom P w K mg base CX0 k x st ps sp) : PromG P w K mg base k x st ps sp := by
  obtain ⟨f, fd, F, r⟩ := G.ex
  exact ⟨f, fd, FnG.of F, r⟩
end
section
variable {X : Cx} {k : Nat} {x : Str} {st : Stmt} {ps : List Str} {sp : Sp} {e : Expr} {es : List Expr} {t : TA} {p pos : Pos}
/-- f(..) of such a def -/
theorem pe_callG (G : PromG X.prog X.w X.K X.mg X.base k x st ps sp) (gd : X.A.guards = some []) (hr : Room k X.A) (hg : Gl X x) (ha : PA X (e :: es) t)
    (hdb : (x == ("__debug__" : Str)) = false := by decide) (he : starEach (e :: es) X.env = (false, eval e X.env) :: starEach es X.env := by rfl) (hpl : (backTo pos (starEach es X.env)).any (·.1) = false := by rfl) :
    PE X (.Call (.Name x p) (e :: es) [] pos) (tCall sp [] E0 t) := by
  obtain ⟨f, fd, F, hm, D, hb⟩ := G.ex
  constructor
  intro pins s σ H Q I h
  refine wpAny_Call_Name_kw (ld_glob I hg hm (PySem.W.callWith_K (h₀ := X.base) I.ok.mod.kin D.kp (thn (ha.run pos pins s σ H _ I h) ?_) he hpl) hdb)
  rintro us s1 ⟨vs, H1, I1, rel, want⟩
  refine ⟨I1.kIn, wpAny_call (codeAny_mono (F.run X.A X.stack s1 H1 ⟨us, []⟩ (us ++ []) (vs ++ []) Q E0 hr gd I1.env0 (hb s1 us I1.kIn ?_) (rel.append .nil) want) ?_)⟩
  · rw [← (rel.append Paired.nil).length]
    exact F.len _ _ _ _ want
  · intro r s' hq
    cases r with
    | error z => exact False.elim hq
    | ok fl =>
      cases fl with
      | ret u => exact I1.after hq
      | next => exact False.elim hq
      | brk => exact False.elim hq
      | cont => exact False.elim hq
/-- repr of data at any depth -/
theorem cr_reprD (gd : X.A.guards = some []) (hu : X.A.units + 64 < cLine) : CallR X (.builtin "repr") (fun xs H Q => ∃ (a : Addr) (d : PyData), xs = [.ref a] ∧ Dp X.K H (.ref a) d ∧ d.showable = true ∧ d.hasDict = false ∧ d.depth ≤ 40 ∧ d.shown.length ≤ sizeLine ∧ Q (.str d.shown) H) := by
  intro pins s σ H xs us Q I r h
  obtain ⟨a, d, rfl, hd, h1, h2, h3, h4, q⟩ := h
  obtain ⟨u, rfl, ru⟩ := vals1 r
  obtain ⟨as, rd⟩ := Dp.reads I d _ u hd ru
  cases (show u = Value.ref a from ru)
  refine repr_of_reads' rd h1 (PyData.noDict_hsm h2) gd (by omega) (fun _ _ z => z) (fun h' tok tk kept => ?_) h4
  exact ⟨.str d.shown, H, I.kept (t' := tk) kept, ⟨_, rfl⟩, q⟩
end
/-! ### the law's call -/
section
variable {P : Program} {w : World} {K : PySem.W.Frag} {mg mb : Str → Option Value} {k : Nat} {fa a : Addr} {fd : FuncData} {x : Str} {sp : Sp} {st : Shared} {vs : List Value} {ns : List Int}
/-- the script as the law finds it -/
def scriptHp (K : PySem.W.Frag) (a : Addr) (vs : List Value) (ns : List Int) : Hp := fun b => if b = a ∧ K.lookup a = none then some (.frz { cls := .type "list", data := .seq vs.toArray } (.lst (ns.map V.int))) else none
theorem scriptHp_some {b : Addr} {u : HO} (h : scriptHp K a vs ns b = some u) : b = a ∧ K.lookup a = none ∧ u = .frz { cls := .type "list", data := .seq vs.toArray } (.lst (ns.map V.int)) := by
  unfold scriptHp at h
  by_cases c : b = a ∧ K.lookup a = none
  · rw [if_pos c] at h
    exact ⟨c.1, c.2, (Option.some.inj h).symm⟩
  · rw [if_neg c] at h
    cases h
theorem scriptHp_none {b : Addr} (h : b ≠ a) : scriptHp K a vs ns b = none := if_neg fun z => h z.1
theorem law_callG (KX : K.In st.heap) (gl : st.heap.Ns mainGlobals mg) (bl : st.heap.Ns builtinsNs mb) (bb : ∀ y : Str, y ≠ "__name__" → mb y = bootBuiltins y) (nl : st.heap.NoLimit) (gn : st.gens = #[])
    (ha : st.heap.get? a = some { cls := .type "list", data := .seq vs.toArray }) (hi : IntsAre vs ns) (hl : ns.length ≤ sizeLine) (room : Room k callerA)
    (F : ∀ base : Heap, K.In base → base.Ns mainGlobals mg → FnG P w K mg base k fa fd [x] sp) (bind1 : ∀ (s : Shared) (u : Value), BindsTo s fd ⟨[u], []⟩ [(x, u)])
    (want : ∀ H : Hp, SqL K H a (ns.map V.int) → sp [.ref a] H (fun v _ => v = .bl true) fun _ _ _ => False) :
    codeAny (model P w) callerA (.call (.ref fa) ⟨[.ref a], []⟩) (fun r s' => r = .ok (.ret (.bool true)) ∧ OldK st.heap s'.heap ∧ s'.os = st.os ∧ AllBare s'.gens) st := by
  have rel : Vals (ns.map V.int) vs := vals_ints hi
  have len : (ns.map V.int).length ≤ sizeLine := by rw [List.length_map]; exact hl
  generalize hH : scriptHp K a vs ns = H
  have sm : ∀ {b u}, H b = some u → b = a ∧ K.lookup a = none ∧ u = .frz { cls := .type "list", data := .seq vs.toArray } (.lst (ns.map V.int)) := fun {b u} e => by
    rw [← hH] at e
    exact scriptHp_some e
  have ok : HOk P w H st.heap := fun b u e => by
    obtain ⟨rfl, _, rfl⟩ := sm e
    exact ⟨ha, len, vs, _, rel, ha⟩
  have sq : SqL K H a (ns.map V.int) := by
    cases lk : K.lookup a with
    | none => exact Or.inl (Or.inr ⟨_, by rw [← hH]; exact if_pos ⟨rfl, lk⟩⟩)
    | some o =>
      have e := (KX a o lk).symm.trans ha
      cases e
      exact Or.inr ⟨_, vs.toArray, _, lk, rfl, rfl, rfl, by rw [List.size_toArray, ← rel.length]; exact len, by simpa using rel⟩
  have hid : ∀ {b o}, st.heap.get? b = some o → H b = none → (hidT st.heap H).get? b = some o := fun e n => hidT_get e n
  have free : ∀ {b : Addr} {m}, st.heap.Ns b m → H b = none := fun {b m} hn => by
    cases e : H b with
    | none => rfl
    | some u =>
      obtain ⟨rfl, _, _⟩ := sm e
      obtain ⟨o, es, ep, e1, e2, _⟩ := hn
      have z := ha.symm.trans e1
      cases z
      cases e2
  have ns1 : ∀ {b : Addr} {m}, st.heap.Ns b m → (hidT st.heap H).Ns b m := fun {b m} hn => by
    have fr := free hn
    obtain ⟨o, es, ep, e1, e2⟩ := hn
    exact ⟨o, es, ep, hid e1 fr, e2⟩
  have inB : K.In (hidT st.heap H) := fun b o e => hid (KX b o e) (by
    cases z : H b with
    | none => rfl
    | some u =>
      obtain ⟨rfl, z2, _⟩ := sm z
      rw [z2] at e
      cases e)
  have md : Mod K mg (hidT st.heap H) := ⟨inB, ns1 gl, ⟨mb, ns1 bl, bb⟩, let ⟨mc, c1, c2⟩ := nl; ⟨mc, ns1 c1, c2⟩⟩
  have env : Env0 P w K mg (hidT st.heap H) callerA [] st H := ⟨rfl, md, fun _ _ e => of_hidT e, Nat.le_of_eq (hidT_size _ _), trivial, fun b z => absurd (show b ∈ ([] : List Addr) from z) (by simp), ok, .of_eq gn⟩
  refine codeAny_mono ((F _ inB (ns1 gl)).run callerA [] st H ⟨[.ref a], []⟩ [.ref a] [.ref a] _ _ room rfl env (bind1 st (.ref a)) (.cons rfl .nil) (want H sq)) fun r s' h => ?_
  cases r with
  | error z => exact False.elim h
  | ok fl =>
    cases fl with
    | next => exact False.elim h
    | brk => exact False.elim h
    | cont => exact False.elim h
    | ret u =>
      obtain ⟨v, H', os, bare, un, ok', ru, qv⟩ := h
      cases (show v = .bl true from qv)
      cases (show u = Value.bool true from ru)
      refine ⟨rfl, OldK.of_keep ?_, os, bare⟩
      intro b o e
      cases z : H b with
      | none => exact un.keep b o e z (by intro y; exact absurd (show b ∈ ([] : List Addr) from y) (by simp)) (by simp)
      | some t =>
        obtain ⟨rfl, _, rfl⟩ := sm z
        have e2 := (ok' _ _ (un.frzs _ _ _ z)).1
        have e3 := ha.symm.trans e
        cases e3
        exact e2
end
/-- a law whose def is a PromG -/
theorem walk_ofG {l : PySem.W.OpenLaw} {n k : Nat} {q : Program} {loose : List Str} {XP : (Str → Option Value) → Heap → Prop} {YP : World → Heap → Prop} {d : DefRec} {x : Str}
    (hn : l.most = some n) (hn2 : n ≤ sizeLine) (hdf : d.params.defaults = []) (room : Room k callerA)
    (F : ∀ (w : World) (mg : Str → Option Value) (fa : Addr) (h : Heap), YP w h → h.Ns mainGlobals mg → mg d.name = some (.ref fa) →
      ∃ (K : PySem.W.Frag) (fd : FuncData) (sp : Sp), K.In h ∧ (∀ (s : Shared) (u : Value), BindsTo s fd ⟨[u], []⟩ [(x, u)]) ∧
        (∀ (H : Hp) (a : Addr) (ns : List Int), ns.length ≤ n → (∀ z ∈ ns, Builtin.Int.intBits z ≤ 1048576) → SqL K H a (ns.map V.int) → sp [.ref a] H (fun v _ => v = .bl true) fun _ _ _ => False) ∧
        ∀ base : Heap, K.In base → base.Ns mainGlobals mg → FnG l.prog w K mg base k fa fd [x] sp) :
    PySem.W.WalkO q loose XP YP l.row.toRowW d [] (fun f vs => PySem.call f vs) := by
  refine Att.attach_callB hn hdf fun w sA sB mg mb fa o pm cd doc a vs ns G Y ho hd hcd hmg hobj hints hlen hbits hg => ?_
  obtain ⟨K, fd, sp, KX, b1, want, hF⟩ := F w mg fa _ Y G.T.g hmg
  exact law_callG KX G.T.g G.T.b G.T.builtins G.T.nolimit hg hobj hints (Nat.le_trans hlen hn2) room hF b1 (fun H hS => want H a ns hlen hbits hS)
end Sz
namespace Sz
/-! ### powers -/
theorem pow_pos {b : Int} (hb : 1 ≤ b) : ∀ j : Nat, 1 ≤ b ^ j
  | 0 => by rw [Int.pow_zero]; exact Int.le_refl 1
  | j + 1 => by
    rw [Int.pow_succ]
    have ih := pow_pos hb j
    have h := Int.mul_le_mul ih hb (by omega) (by omega)
    omega
theorem pow_one (b : Int) : b ^ (0 + 1) = b := by rw [Int.pow_succ, Int.pow_zero, Int.one_mul]
theorem pow_step {b : Int} (hb : 1 ≤ b) (j : Nat) : b ^ j ≤ b ^ (j + 1) := by
  rw [Int.pow_succ]
  have h := Int.mul_le_mul_of_nonneg_left hb (show 0 ≤ b ^ j by have := pow_pos hb j; omega)
  omega
theorem pow_mono {b : Int} (hb : 1 ≤ b) {i : Nat} : ∀ {j : Nat}, i ≤ j → b ^ i ≤ b ^ j
  | 0, h => by
    have e : i = 0 := by omega
    rw [e]
    exact Int.le_refl _
  | j + 1, h => by
    by_cases e : i = j + 1
    · rw [e]
      exact Int.le_refl _
    · exact Int.le_trans (pow_mono hb (j := j) (by omega)) (pow_step hb j)
theorem pow_lt {b : Int} (hb : 2 ≤ b) (j : Nat) : b ^ j < b ^ (j + 1) := by
  rw [Int.pow_succ]
  have h1 := pow_pos (show 1 ≤ b by omega) j
  have h := Int.mul_le_mul_of_nonneg_left hb (show 0 ≤ b ^ j by omega)
  omega
/-- an integer is below the power with its own number -/
theorem lt_pow {b : Int} (hb : 2 ≤ b) : ∀ j : Nat, (j : Int) < b ^ j
  | 0 => by rw [Int.pow_zero]; decide
  | j + 1 => by
    have h1 := lt_pow hb j
    have h2 := pow_lt hb j
    omega
/-! ### figures -/
/-- k is the number of figures of n in the base b -/
def IsF (b n k : Int) : Prop := ∃ j : Nat, k = (j : Int) + 1 ∧ n < b ^ (j + 1) ∧ (j = 0 ∨ b ^ j ≤ n)
theorem isF_le {b n m k l : Int} (hb : 2 ≤ b) (h : n ≤ m) (hk : IsF b n k) (hl : IsF b m l) : k ≤ l := by
  obtain ⟨i, rfl, h1, h2⟩ := hk
  obtain ⟨j, rfl, h3, h4⟩ := hl
  by_cases c : i ≤ j
  · omega
  · rcases h2 with h2 | h2
    · omega
    · have h5 := pow_mono (show 1 ≤ b by omega) (show j + 1 ≤ i by omega)
      omega
theorem isF_eq {b n k l : Int} (hb : 2 ≤ b) (hk : IsF b n k) (hl : IsF b n l) : k = l :=
  Int.le_antisymm (isF_le hb (Int.le_refl n) hk hl) (isF_le hb (Int.le_refl n) hl hk)
theorem isF_pos {b n k : Int} (h : IsF b n k) : 1 ≤ k := by
  obtain ⟨j, rfl, _⟩ := h
  omega
/-- there is such a number -/
theorem isF_ex {b : Int} (hb : 2 ≤ b) (n : Int) : ∃ k, IsF b n k := by
  have key : ∀ m : Nat, ∀ n : Int, n < b ^ (m + 1) → ∃ k, IsF b n k := by
    intro m
    induction m with
    | zero => exact fun n h => ⟨1, 0, rfl, h, .inl rfl⟩
    | succ m ih =>
      intro n h
      by_cases c : n < b ^ (m + 1)
      · exact ih n c
      · exact ⟨(m + 1 : Nat) + 1, m + 1, rfl, h, .inr (by omega)⟩
  refine key n.toNat n ?_
  have h1 := lt_pow hb (n.toNat + 1)
  omega
/-- a bound for the figures -/
theorem isF_bound {b n k : Int} (hb : 2 ≤ b) (m : Nat) (hn : n < 2 ^ m) (h : IsF b n k) : k ≤ (m : Int) + 1 := by
  obtain ⟨j, rfl, h1, h2⟩ := h
  rcases h2 with h2 | h2
  · omega
  · by_cases c : j ≤ m
    · omega
    · exfalso
      have h3 : (2 : Int) ^ j ≤ b ^ j := by
        clear h1 h2 c
        induction j with
        | zero => rw [Int.pow_zero, Int.pow_zero]; exact Int.le_refl 1
        | succ j ih =>
          rw [Int.pow_succ, Int.pow_succ]
          exact Int.mul_le_mul ih hb (by decide) (by have := pow_pos (show 1 ≤ b by omega) j; omega)
      have h4 := pow_mono (show (1 : Int) ≤ 2 by decide) (show m ≤ j by omega)
      omega
end Sz
namespace Sz
/-! ### totals that count their own figures -/
theorem isF_upper {b x g : Int} (hb : 2 ≤ b) {m : Nat} (h : x < b ^ (m + 1)) (hg : IsF b x g) : g ≤ (m : Int) + 1 := by
  obtain ⟨i, rfl, h1, h2⟩ := hg
  by_cases c : i ≤ m
  · omega
  · rcases h2 with h2 | h2
    · omega
    · have := pow_mono (show 1 ≤ b by omega) (show m + 1 ≤ i by omega)
      omega
/-- adding its figures to a number makes one figure more at most -/
theorem fig_grow {b n f g : Int} (hb : 2 ≤ b) (hn : 0 ≤ n) (hf : IsF b n f) (hg : IsF b (n + f) g) : g = f ∨ g = f + 1 := by
  have h1 := isF_le hb (show n ≤ n + f by have := isF_pos hf; omega) hf hg
  obtain ⟨j, rfl, h2, h3⟩ := hf
  have h4 := lt_pow hb (j + 1)
  have h5 : b ^ (j + 1 + 1) = b ^ (j + 1) * b := Int.pow_succ b (j + 1)
  have h6 := Int.mul_le_mul_of_nonneg_left hb (show 0 ≤ b ^ (j + 1) by omega)
  have h7 := isF_upper (m := j + 1) hb (show n + ((j : Int) + 1) < b ^ (j + 1 + 1) by omega) hg
  omega
/-- and then this is the number of figures -/
theorem fig_next {b n f : Int} (hb : 2 ≤ b) (hn : 0 ≤ n) (hf : IsF b n f) (hg : IsF b (n + f) (f + 1)) : IsF b (n + f + 1) (f + 1) := by
  obtain ⟨j, rfl, h2, h3⟩ := hf
  obtain ⟨i, e, h4, h5⟩ := hg
  have e2 : i = j + 1 := by omega
  subst e2
  have h6 := lt_pow hb (j + 1)
  have h7 : b ^ (j + 1 + 1) = b ^ (j + 1) * b := Int.pow_succ b (j + 1)
  have h8 := Int.mul_le_mul_of_nonneg_left hb (show 0 ≤ b ^ (j + 1) by omega)
  refine ⟨j + 1, by omega, by omega, Or.inr ?_⟩
  rcases h5 with h5 | h5
  · omega
  · omega
/-- s is a total of N -/
def Tot (b N s : Int) : Prop := IsF b s (s - N)
structure IsTot (b N s : Int) : Prop where
  tot : Tot b N s
  least : ∀ t, Tot b N t → s ≤ t
theorem isTot_pos {b N s : Int} (h : Tot b N s) : N + 1 ≤ s := by
  have := isF_pos h
  omega
theorem isTot_first {b n f : Int} (hb : 2 ≤ b) (hf : IsF b n f) (hg : IsF b (n + f) f) : IsTot b n (n + f) := by
  refine ⟨?_, fun t ht => ?_⟩
  · have e : n + f - n = f := by omega
    show IsF b (n + f) (n + f - n)
    rw [e]
    exact hg
  · have h1 := isTot_pos ht
    have h2 := isF_le hb (show n ≤ t by omega) hf ht
    omega
theorem isTot_second {b n f : Int} (hb : 2 ≤ b) (hn : 0 ≤ n) (hf : IsF b n f) (hg : IsF b (n + f) (f + 1)) : IsTot b n (n + f + 1) := by
  refine ⟨?_, fun t ht => ?_⟩
  · have e : n + f + 1 - n = f + 1 := by omega
    show IsF b (n + f + 1) (n + f + 1 - n)
    rw [e]
    exact fig_next hb hn hf hg
  · have h1 := isTot_pos ht
    have h2 := isF_le hb (show n ≤ t by omega) hf ht
    by_cases c : t = n + f
    · subst c
      have ht2 : IsF b (n + f) (n + f - n) := ht
      have e : n + f - n = f := by omega
      rw [e] at ht2
      have := isF_eq hb ht2 hg
      omega
    · omega
theorem isTot_eq {b N s t : Int} (h : IsTot b N s) (h2 : IsTot b N t) : s = t := Int.le_antisymm (h.least t h2.tot) (h2.least s h.tot)
/-- two totals lie beside one another -/
theorem tot_near {b N s t : Int} (hb : 2 ≤ b) (hN : 0 ≤ N) (h : Tot b N s) (h2 : Tot b N t) (hst : s ≤ t) : t ≤ s + 1 := by
  obtain ⟨i, e1, h3, h4⟩ := h
  obtain ⟨j, e2, h5, h6⟩ := h2
  by_cases c : t ≤ s + 1
  · exact c
  · exfalso
    have hj : b ^ j ≤ t := by
      rcases h6 with h6 | h6
      · omega
      · exact h6
    obtain ⟨m, hm⟩ : ∃ m : Nat, j = i + 1 + (m + 1) := ⟨j - i - 2, by omega⟩
    have e3 : b ^ j = b ^ (i + 1) * b ^ (m + 1) := by rw [hm, Int.pow_add]
    have p1 := pow_pos (show 1 ≤ b by omega) (i + 1)
    have p0 : 2 ≤ b ^ (i + 1) := by
      have := pow_mono (show 1 ≤ b by omega) (show 0 + 1 ≤ i + 1 by omega)
      rw [pow_one] at this
      omega
    have l1 := lt_pow hb (m + 1)
    have l2 := Int.mul_le_mul_of_nonneg_left (show ((m + 1 : Nat) : Int) + 1 ≤ b ^ (m + 1) by omega) (show 0 ≤ b ^ (i + 1) by omega)
    have l3 : b ^ (i + 1) * (((m + 1 : Nat) : Int) + 1) = b ^ (i + 1) * ((m + 1 : Nat) : Int) + b ^ (i + 1) := by rw [Int.mul_add, Int.mul_one]
    have l4 := Int.mul_le_mul_of_nonneg_right p0 (show 0 ≤ ((m + 1 : Nat) : Int) by omega)
    omega
/-- whether the next integer is a total, too -/
theorem tot_two {b N s g h : Int} (hb : 2 ≤ b) (ht : Tot b N s) (hg : IsF b s g) (hh : IsF b (s + 1) h) : (h > g ↔ Tot b N (s + 1)) := by
  have e1 : g = s - N := isF_eq hb hg ht
  constructor
  · intro c
    have h1 : h = g + 1 := by
      obtain ⟨j, rfl, h2, h3⟩ := hg
      have h4 := isF_upper (m := j + 1) hb (show s + 1 < b ^ (j + 1 + 1) by have := pow_lt hb (j + 1); omega) hh
      omega
    show IsF b (s + 1) (s + 1 - N)
    have e2 : s + 1 - N = h := by omega
    rw [e2]
    exact hh
  · intro c
    have e2 : h = s + 1 - N := isF_eq hb hh c
    omega
theorem isTot_ex {b n : Int} (hb : 2 ≤ b) (hn : 0 ≤ n) : ∃ s, IsTot b n s := by
  obtain ⟨f, hf⟩ := isF_ex hb n
  obtain ⟨g, hg⟩ := isF_ex hb (n + f)
  rcases fig_grow hb hn hf hg with e | e
  · exact ⟨_, isTot_first hb hf (by rw [← e]; rw [e] at hg ⊢; exact hg)⟩
  · exact ⟨_, isTot_second hb hn hf (by rw [← e]; exact hg)⟩
theorem pow_add_le {b : Int} (hb : 2 ≤ b) (j d : Nat) : b ^ j + d ≤ b ^ (j + d) := by
  induction d with
  | zero => simp
  | succ d ih =>
    have := pow_lt hb (j + d)
    have e : j + (d + 1) = j + d + 1 := by omega
    rw [e]
    omega
theorem two_mul_le {b : Int} (hb : 2 ≤ b) : ∀ j : Nat, 2 * (j : Int) ≤ b ^ j + 1
  | 0 => by simp
  | 1 => by rw [show (1 : Nat) = 0 + 1 from rfl, pow_one]; omega
  | j + 2 => by
    have h1 := two_mul_le hb (j + 1)
    have h2 : b ^ (j + 2) = b ^ (j + 1) * b := Int.pow_succ b (j + 1)
    have h3 := pow_mono (show 1 ≤ b by omega) (show 0 + 1 ≤ j + 1 by omega)
    rw [pow_one] at h3
    have h4 := Int.mul_le_mul_of_nonneg_left hb (show 0 ≤ b ^ (j + 1) by omega)
    omega
/-- the totals found ahead of the number k of figures -/
def totA (N s : Int) (two : Bool) (k : Int) : List Int := if k ≤ s - N then [] else if k = s - N + 1 ∨ two = false then [s] else [s, s + 1]
theorem totA_start {b N s : Int} {two : Bool} (h : IsTot b N s) : totA N s two 1 = [] := if_pos (by have := isTot_pos h.tot; omega)
/-- the one with k figures is a total -/
theorem totA_yes {b N s k : Int} {two : Bool} (hb : 2 ≤ b) (hN : 0 ≤ N) (h : IsTot b N s) (h2 : two = true ↔ Tot b N (s + 1)) (hk : Tot b N (N + k)) : totA N s two (k + 1) = totA N s two k ++ [N + k] := by
  have a := h.least _ hk
  have c := tot_near hb hN h.tot hk a
  by_cases e : N + k = s
  · have e1 : totA N s two k = [] := if_pos (by omega)
    have e2 : totA N s two (k + 1) = [s] := by
      unfold totA
      rw [if_neg (by omega), if_pos (Or.inl (by omega))]
    rw [e1, e2, e]
    rfl
  · have e0 : N + k = s + 1 := by omega
    have ht : two = true := h2.mpr (by rw [← e0]; exact hk)
    have e1 : totA N s two k = [s] := by
      unfold totA
      rw [if_neg (by omega), if_pos (Or.inl (by omega))]
    have e2 : totA N s two (k + 1) = [s, s + 1] := by
      unfold totA
      rw [if_neg (by omega), if_neg (by rw [ht]; simp; omega)]
    rw [e1, e2, e0]
    rfl
theorem totA_no {b N s k : Int} {two : Bool} (h : IsTot b N s) (h2 : two = true ↔ Tot b N (s + 1)) (hk : ¬ Tot b N (N + k)) : totA N s two (k + 1) = totA N s two k := by
  have e : N + k ≠ s := fun z => hk (by rw [z]; exact h.tot)
  unfold totA
  by_cases c : k ≤ s - N
  · rw [if_pos c, if_pos (by omega)]
  · rw [if_neg c, if_neg (by omega)]
    by_cases d : k = s - N + 1
    · have d0 : N + k = s + 1 := by omega
      have ht : two = false := by
        cases q : two with
        | false => rfl
        | true => exact absurd (by rw [d0]; exact h2.mp q) hk
      rw [if_pos (Or.inr ht), if_pos (Or.inr ht)]
    · by_cases ht : two = false
      · rw [if_pos (Or.inr ht), if_pos (Or.inr ht)]
      · rw [if_neg (fun z => z.elim (by omega) ht), if_neg (fun z => z.elim (by omega) ht)]
theorem totA_end {b N s : Int} {j : Nat} {two : Bool} (hb : 2 ≤ b) (hN : 0 ≤ N) (h : IsTot b N s) (h2 : two = true ↔ Tot b N (s + 1)) (hj : ¬ b ^ j ≤ N + ((j : Int) + 1)) : totA N s two ((j : Int) + 1) = if two then [s, s + 1] else [s] := by
  have far : ∀ t, Tot b N t → t - N < (j : Int) + 1 := fun t ht => by
    obtain ⟨i, e, h3, h4⟩ := ht
    by_cases c : i < j
    · omega
    · exfalso
      obtain ⟨d, hd⟩ : ∃ d, i = j + d := ⟨i - j, by omega⟩
      have h5 := pow_add_le hb j d
      rw [← hd] at h5
      rcases h4 with h4 | h4
      · have e0 : j = 0 := by omega
        rw [e0] at hj h5
        have : N + 1 ≤ t := by omega
        have e1 : d = 0 := by omega
        rw [e1] at h5
        simp at hj h5
        omega
      · omega
  have f1 := far s h.tot
  unfold totA
  rw [if_neg (by omega)]
  cases ht : two with
  | false => simp
  | true =>
    have f2 := far _ (h2.mp ht)
    rw [if_neg (by simp; omega)]
    rfl
/-- figures grow no faster than numbers -/
theorem fig_lip {b x y f g : Int} (hb : 2 ≤ b) (h : x ≤ y) (hf : IsF b x f) (hg : IsF b y g) : g ≤ f + (y - x) := by
  obtain ⟨j, rfl, h1, h2⟩ := hf
  obtain ⟨d, hd⟩ : ∃ d : Nat, y = x + d := ⟨(y - x).toNat, by omega⟩
  have h3 := pow_add_le hb (j + 1) d
  have h4 := isF_upper (m := j + d) hb (show y < b ^ (j + d + 1) by rw [show j + d + 1 = j + 1 + d by omega]; omega) hg
  omega
/-- the least total of the next one stands right behind the last total -/
theorem tot_step {b N s : Int} {two : Bool} (hb : 2 ≤ b) (hN : 0 ≤ N) (h : IsTot b N s) (h2 : two = true ↔ Tot b N (s + 1)) : IsTot b (N + 1) (s + (if two then [s, s + 1] else [s]).length) := by
  have last : ∃ e : Int, s + (if two then [s, s + 1] else [s]).length = e + 1 ∧ Tot b N e ∧ ¬ Tot b N (e + 1) := by
    cases q : two with
    | false => exact ⟨s, by simp, h.tot, fun z => by rw [q] at h2; have := h2.mpr z; cases this⟩
    | true =>
      refine ⟨s + 1, by simp; omega, h2.mp q, fun z => ?_⟩
      have := tot_near hb hN h.tot z (by omega)
      omega
  obtain ⟨e, e0, e1, e2⟩ := last
  rw [e0]
  obtain ⟨f, hf⟩ := isF_ex hb (e + 1)
  have f1 := isF_le hb (show e ≤ e + 1 by omega) e1 hf
  have f2 := fig_lip hb (show e ≤ e + 1 by omega) e1 hf
  have f3 : f ≠ e + 1 - N := fun z => e2 (by show IsF b (e + 1) (e + 1 - N); rw [← z]; exact hf)
  refine ⟨?_, fun t ht => ?_⟩
  · show IsF b (e + 1) (e + 1 - (N + 1))
    have : f = e + 1 - (N + 1) := by omega
    rw [← this]
    exact hf
  · by_cases c : e + 1 ≤ t
    · exact c
    · have := fig_lip hb (show t ≤ e by omega) ht e1
      omega
/-- the integer ahead of the least total is one of the length ahead -/
theorem tot_ahead {b N s f : Int} (hb : 2 ≤ b) (h : IsTot b N s) (hf : IsF b (s - 1) f) : s - 1 - f = N - 1 := by
  have h1 := fig_lip hb (show s - 1 ≤ s by omega) hf h.tot
  have h2 := isF_le hb (show s - 1 ≤ s by omega) hf h.tot
  have h3 : f ≠ s - 1 - N := fun z => by
    have := h.least (s - 1) (by show IsF b (s - 1) (s - 1 - N); rw [← z]; exact hf)
    omega
  omega
/-- so many integers from one on -/
def irun (s : Int) (n : Nat) : List Int := (List.range n).map fun (i : Nat) => s + (i : Int)
theorem irun_len (s : Int) (n : Nat) : (irun s n).length = n := by
  unfold irun
  simp
theorem irun_app (s : Int) (n : Nat) (two : Bool) : irun s n ++ (if two then [s + n, s + n + 1] else [s + n]) = irun s (n + (if two then [s, s + 1] else [s]).length) := by
  unfold irun
  cases two with
  | false => simp [List.range_succ]
  | true =>
    simp [List.range_succ]
    omega
/-- a total by its power -/
theorem tot_iff {b N : Int} {j : Nat} (hN : 0 ≤ N) (hj : b ^ j ≤ N + ((j : Int) + 1)) : Tot b N (N + ((j : Int) + 1)) ↔ N + ((j : Int) + 1) < b ^ (j + 1) := by
  have e : N + ((j : Int) + 1) - N = (j : Int) + 1 := by omega
  constructor
  · rintro ⟨i, e1, h1, _⟩
    have : i = j := by omega
    rw [this] at h1
    exact h1
  · intro h
    exact ⟨j, e, h, Or.inr hj⟩
end Sz
namespace Sz
/-! ### what wraps make of lengths -/
open Classical in
/-- how many figures -/
noncomputable def figF (b n : Int) : Int := if h : 2 ≤ b then choose (isF_ex h n) else 0
theorem figF_is {b n : Int} (h : 2 ≤ b) : IsF b n (figF b n) := by
  unfold figF
  rw [dif_pos h]
  exact Classical.choose_spec (isF_ex h n)
theorem figF_eq {b n k : Int} (hb : 2 ≤ b) (h : IsF b n k) : k = figF b n := isF_eq hb h (figF_is hb)
theorem figF_pos {b n : Int} (hb : 2 ≤ b) : 1 ≤ figF b n := isF_pos (figF_is hb)
theorem figF_mono {b n m : Int} (hb : 2 ≤ b) (h : n ≤ m) : figF b n ≤ figF b m := isF_le hb h (figF_is hb) (figF_is hb)
theorem figF_lip {b n m : Int} (hb : 2 ≤ b) (h : n ≤ m) : figF b m ≤ figF b n + (m - n) := fig_lip hb h (figF_is hb) (figF_is hb)
open Classical in
/-- the least total -/
noncomputable def totF (b n : Int) : Int := if h : 2 ≤ b ∧ 0 ≤ n then choose (isTot_ex h.1 h.2) else 0
theorem totF_is {b n : Int} (h : 2 ≤ b) (h2 : 0 ≤ n) : IsTot b n (totF b n) := by
  unfold totF
  rw [dif_pos ⟨h, h2⟩]
  exact Classical.choose_spec (isTot_ex h h2)
theorem totF_eq {b n k : Int} (hb : 2 ≤ b) (hn : 0 ≤ n) (h : IsTot b n k) : k = totF b n := isTot_eq h (totF_is hb hn)
/-- how many parts of a size a length begins -/
def beg (n m : Int) : Int := (n + m - 1) / m
inductive Wr where
  | plus (c : Int)
  | told (c : Int)
  | whole (c : Int)
  | pieces (m c : Int)
  | cut (m c : Int)
  | coded (m c : Int)
  | filled (m : Int)
def Wr.kind : Wr → PySem.Str
  | .plus _ => "plus"
  | .told _ => "told"
  | .whole _ => "whole"
  | .pieces _ _ => "pieces"
  | .cut _ _ => "cut"
  | .coded _ _ => "coded"
  | .filled _ => "filled"
def Wr.nums : Wr → List Int
  | .plus c => [c]
  | .told c => [c]
  | .whole c => [c]
  | .pieces m c => [m, c]
  | .cut m c => [m, c]
  | .coded m c => [m, c]
  | .filled m => [m]
def Wr.rng : Wr → List (Int × Int)
  | .plus _ => [(0, 1000)]
  | .told _ => [(0, 1000)]
  | .whole _ => [(0, 1000)]
  | .pieces _ _ => [(1, 60), (0, 60)]
  | .cut _ _ => [(1, 60), (0, 60)]
  | .coded _ _ => [(1, 60), (1, 120)]
  | .filled _ => [(1, 60)]
def Wr.ok : Wr → Prop
  | .plus c => 0 ≤ c ∧ c ≤ 1000
  | .told c => 0 ≤ c ∧ c ≤ 1000
  | .whole c => 0 ≤ c ∧ c ≤ 1000
  | .pieces m c => 1 ≤ m ∧ m ≤ 60 ∧ 0 ≤ c ∧ c ≤ 60
  | .cut m c => 1 ≤ m ∧ m ≤ 60 ∧ 0 ≤ c ∧ c ≤ 60
  | .coded m c => 1 ≤ m ∧ m ≤ 60 ∧ m ≤ c ∧ c ≤ 120
  | .filled m => 1 ≤ m ∧ m ≤ 60
/-- the size that a wrap makes of a length -/
noncomputable def Wr.gr (b : Int) : Wr → Int → Int
  | .plus c, n => n + c
  | .told c, n => n + c + figF b n
  | .whole c, n => totF b (n + c)
  | .pieces m c, n => n / m * (m + c + figF b m) + (if 0 < n % m then n % m + c + figF b (n % m) else 0) + c + 1
  | .cut m c, n => n + beg n m * c
  | .coded m c, n => beg n m * c
  | .filled m, n => beg n m * m
theorem nums_len {w : Wr} : w.nums.length = w.rng.length := by cases w <;> rfl
theorem nums_small {w : Wr} (h : w.ok) : ∀ x ∈ w.nums, 0 ≤ x ∧ x ≤ 1000 := by
  cases w <;> simp only [Wr.ok] at h <;> simp [Wr.nums] <;> omega
theorem beg_le {n m : Int} (hn : 0 ≤ n) (hm : 1 ≤ m) : beg n m ≤ n ∧ 0 ≤ beg n m := by
  unfold beg
  constructor
  · refine Int.le_of_lt_add_one (Int.ediv_lt_of_lt_mul (by omega) ?_)
    have := Int.mul_le_mul_of_nonneg_left hm (show 0 ≤ n by omega)
    have e : (n + 1) * m = n * m + m := by rw [Int.add_mul, Int.one_mul]
    omega
  · exact Int.ediv_nonneg (by omega) (by omega)
theorem fig_small {b m : Int} (hb : 2 ≤ b) (hm : m ≤ 60) : figF b m ≤ 6 := by
  have h : m < b ^ (5 + 1) := by
    have h1 := pow_pos (show 1 ≤ b by omega) 5
    have h2 : (64 : Int) ≤ b ^ 6 := by
      have : ∀ j : Nat, (2 : Int) ^ j ≤ b ^ j := fun j => by
        induction j with
        | zero => simp
        | succ j ih =>
          rw [Int.pow_succ, Int.pow_succ]
          exact Int.mul_le_mul ih hb (by decide) (by have := pow_pos (show 1 ≤ b by omega) j; omega)
      have := this 6
      omega
    show m < b ^ 6
    omega
  have := isF_upper (m := 5) hb h (figF_is hb)
  omega
theorem figF_le {b n : Int} (hb : 2 ≤ b) (hn : 0 ≤ n) : figF b n ≤ n + 1 := by
  have h1 := figF_lip (b := b) hb hn
  have h2 : figF b 0 ≤ 1 := by
    have := isF_upper (m := 0) hb (show (0 : Int) < b ^ (0 + 1) by rw [pow_one]; omega) (figF_is hb)
    omega
  omega
/-- a size is no less than 0, and not too great -/
theorem gr_le {b : Int} {w : Wr} (hb : 2 ≤ b) (h : w.ok) {n : Int} (hn : 0 ≤ n) : 0 ≤ w.gr b n ∧ w.gr b n ≤ 128 * n + 4096 := by
  cases w with
  | plus c =>
    simp only [Wr.ok] at h
    simp only [Wr.gr]
    omega
  | told c =>
    simp only [Wr.ok] at h
    simp only [Wr.gr]
    have h1 := figF_le (b := b) hb hn
    have h2 := figF_pos (b := b) (n := n) hb
    omega
  | whole c =>
    simp only [Wr.ok] at h
    simp only [Wr.gr]
    have t := totF_is hb (show 0 ≤ n + c by omega)
    have h1 := isTot_pos t.tot
    have f := figF_is (b := b) (n := n + c) hb
    have g := figF_is (b := b) (n := n + c + figF b (n + c)) hb
    have fl := figF_le (b := b) (n := n + c) hb (by omega)
    rcases fig_grow hb (show 0 ≤ n + c by omega) f g with e | e
    · have := t.least _ (isTot_first hb f (by rw [e] at g; exact g)).tot
      omega
    · have := t.least _ (isTot_second hb (show 0 ≤ n + c by omega) f (by rw [← e]; exact g)).tot
      omega
  | pieces m c =>
    simp only [Wr.ok] at h
    simp only [Wr.gr]
    have f1 := fig_small (b := b) (m := m) hb h.2.1
    have f2 := figF_pos (b := b) (n := m) hb
    have q0 := Int.ediv_nonneg hn (show 0 ≤ m by omega)
    have q1 : n / m ≤ n := Int.ediv_le_self _ hn
    have r0 := Int.emod_nonneg n (show m ≠ 0 by omega)
    have r1 := Int.emod_lt_of_pos n (show 0 < m by omega)
    have f3 := fig_small (b := b) (m := n % m) hb (by omega)
    have f4 := figF_pos (b := b) (n := n % m) hb
    have p0 := Int.mul_nonneg q0 (show 0 ≤ m + c + figF b m by omega)
    have p1 := Int.mul_le_mul q1 (show m + c + figF b m ≤ 126 by omega) (by omega) hn
    split <;> omega
  | cut m c =>
    simp only [Wr.ok] at h
    simp only [Wr.gr]
    have q := beg_le hn h.1
    have p0 := Int.mul_nonneg q.2 (show 0 ≤ c by omega)
    have p1 := Int.mul_le_mul q.1 (show c ≤ 60 by omega) (by omega) hn
    omega
  | coded m c =>
    simp only [Wr.ok] at h
    simp only [Wr.gr]
    have q := beg_le hn h.1
    have p0 := Int.mul_nonneg q.2 (show 0 ≤ c by omega)
    have p1 := Int.mul_le_mul q.1 (show c ≤ 120 by omega) (by omega) hn
    omega
  | filled m =>
    simp only [Wr.ok] at h
    simp only [Wr.gr]
    have q := beg_le hn h.1
    have p0 := Int.mul_nonneg q.2 (show 0 ≤ m by omega)
    have p1 := Int.mul_le_mul q.1 (show m ≤ 60 by omega) (by omega) hn
    omega
end Sz
/-! a hook that looks at whatever one wants besides, and the table of ranges -/
namespace Sz
open PySem PySem.Spec PyProof.Rows L2
abbrev AlX : Type := Bool × He.AlT
/-- what an object names, its class's line left out: what the module names is there already -/
def refsX (o : Obj) : List Addr := match o.data with
  | .seq its _ => its.toList.flatMap He.refV
  | .dict es _ => es.toList.flatMap fun e => He.refV e.val
  | .func fd => He.refV fd.code ++ (He.refV fd.defaults ++ (He.refV fd.kwdefaults ++ fd.closure.map (·.2)))
  | .cls cd => [cd.ns]
  | .fields vs => vs.toList.flatMap He.refV
  | .cell (some v) => He.refV v
  | _ => []
def layerX (g : Addr → Option Obj) (as : List Addr) : List Addr := as.flatMap fun a => match g a with
  | some o => refsX o
  | none => []
/-- layer by layer, nothing looked at twice -/
def layersX (g : Addr → Option Obj) : Nat → List Addr → List Addr
  | 0, l => l
  | n + 1, l => l ++ layersX g n (layerX g l)
def asX (g : Addr → Option Obj) (n : Nat) : List Addr := layersX g n [mainGlobals]
def obsX (fb : PySem.W.Frag → Bool) (fa : List He.Fa) (fn : List He.DefD) (ts : List He.Tab) (K : PySem.W.Frag) : AlX := (fb K, He.obsT fa fn ts K)
def valX (fn : List He.DefD) (ts : List He.Tab) (w : World) : AlX := (true, He.valT fn ts w)
def obsXG (n : Nat) (fb : PySem.W.Frag → Bool) (fa : List He.Fa) (fn : List He.DefD) (ts : List He.Tab) (g : Addr → Option Obj) : AlX := obsX fb fa fn ts (He.frG g (asX g n))
def SaysX (fb : PySem.W.Frag → Bool) (fa : List He.Fa) (fn : List He.DefD) (ts : List He.Tab) (w : World) (K : PySem.W.Frag) : Prop := obsX fb fa fn ts K = valX fn ts w
def hookX (n : Nat) (fb : PySem.W.Frag → Bool) (fa : List He.Fa) (fn : List He.DefD) (ts : List He.Tab) : PySem.W.Hook where
  α := AlX
  obs := fun s => obsXG n fb fa fn ts s.heap.get?
  val := fun w => valX fn ts w
  says := fun w h => ∃ K : PySem.W.Frag, K.In h ∧ SaysX fb fa fn ts w K
  of := fun _ _ e => ⟨_, He.frG_in, e⟩
  keeps := fun _ _ _ ⟨K, hK, c⟩ k => ⟨K, PySem.W.Frag.In.keeps hK k, c⟩
theorem obsXG_eq {n : Nat} {fb : PySem.W.Frag → Bool} {fa : List He.Fa} {fn : List He.DefD} {ts : List He.Tab} {g : Addr → Option Obj} {s : Shared} (h : ∀ a, g a = s.heap.get? a) : obsXG n fb fa fn ts g = (hookX n fb fa fn ts).obs s := by
  rw [show g = s.heap.get? from funext h]
  rfl
section
variable {fb : PySem.W.Frag → Bool} {fa : List He.Fa} {fn : List He.DefD} {ts : List He.Tab} {w : World} {K : PySem.W.Frag}
theorem SaysX.t (c : SaysX fb fa fn ts w K) : He.SaysT fa fn ts w K := congrArg (fun z : AlX => z.2) c
theorem SaysX.b (c : SaysX fb fa fn ts w K) : fb K = true := congrArg (fun z : AlX => z.1) c
end
/-! ### the table of ranges: tuples of pairs -/
def pairB (K : PySem.W.Frag) (u : Value) (q : Int × Int) : Bool := match u with
  | .ref a => (match K.lookup a with
    | some ⟨.type c, _, .seq its _, _⟩ => decide (c = "tuple") && (decide (its.size ≤ sizeLine) && He.relAll [.int q.1, .int q.2] its.toList)
    | _ => false)
  | _ => false
def pairsB (K : PySem.W.Frag) : List Value → List (Int × Int) → Bool
  | [], [] => true
  | u :: us, q :: qs => pairB K u q && pairsB K us qs
  | _, _ => false
def rngB (K : PySem.W.Frag) (D : Addr) (kd : Str) (qs : List (Int × Int)) : Bool := match PySem.W.nsIn K D kd with
  | some (some (.ref b)) => (match K.lookup b with
    | some ⟨.type c, _, .seq its _, _⟩ => decide (c = "tuple") && (decide (its.size ≤ sizeLine) && pairsB K its.toList qs)
    | _ => false)
  | _ => false
inductive Pairs (K : PySem.W.Frag) : List V → List (Int × Int) → Prop where
  | nil : Pairs K [] []
  | cons {a : Addr} {xs : List V} {q : Int × Int} {qs : List (Int × Int)} (h : ∀ H, SqT K H a [.int q.1, .int q.2]) (r : Pairs K xs qs) : Pairs K (.ref a :: xs) (q :: qs)
theorem Pairs.len {K : PySem.W.Frag} {xs : List V} {qs : List (Int × Int)} (h : Pairs K xs qs) : xs.length = qs.length := by
  induction h with
  | nil => rfl
  | cons _ _ ih => exact congrArg (· + 1) ih
theorem Pairs.get {K : PySem.W.Frag} {xs : List V} {qs : List (Int × Int)} (h : Pairs K xs qs) : ∀ {i : Nat} {x : V}, xs[i]? = some x → ∃ (a : Addr) (q : Int × Int), x = .ref a ∧ qs[i]? = some q ∧ ∀ H, SqT K H a [.int q.1, .int q.2] := by
  induction h with
  | nil =>
    intro i x e
    simp at e
  | cons h _ ih =>
    intro i x e
    cases i with
    | zero =>
      simp at e
      exact ⟨_, _, e.symm, rfl, h⟩
    | succ i => exact ih (by simpa using e)
theorem pairB_ok {K : PySem.W.Frag} {u : Value} {q : Int × Int} (h : pairB K u q = true) : ∃ a, u = .ref a ∧ ∀ H, SqT K H a [.int q.1, .int q.2] := by
  cases u with
  | ref a =>
    refine ⟨a, rfl, fun H => ?_⟩
    have h : (match K.lookup a with
      | some ⟨.type c, _, .seq its _, _⟩ => decide (c = "tuple") && (decide (its.size ≤ sizeLine) && He.relAll [.int q.1, .int q.2] its.toList)
      | _ => false) = true := h
    cases e : K.lookup a with
    | none =>
      rw [e] at h
      cases h
    | some o =>
      obtain ⟨oc, od, dt, osl⟩ := o
      rw [e] at h
      cases oc with
      | type c =>
        cases dt with
        | seq its n =>
          obtain ⟨h1, h2⟩ := He.ba h
          obtain ⟨h3, h4⟩ := He.ba h2
          exact .inr ⟨_, its, n, e, congrArg Value.type (of_decide_eq_true h1), rfl, of_decide_eq_true h3, He.relAll_ok h4⟩
        | _ => cases h
      | _ => cases dt <;> cases h
  | _ => cases h
theorem pairsB_ok {K : PySem.W.Frag} : ∀ {us : List Value} {qs : List (Int × Int)}, pairsB K us qs = true → ∃ xs, Vals xs us ∧ Pairs K xs qs
  | [], [], _ => ⟨[], .nil, .nil⟩
  | [], _ :: _, h => by cases h
  | _ :: _, [], h => by cases h
  | u :: us, q :: qs, h => by
    obtain ⟨h1, h2⟩ := He.ba (show (pairB K u q && pairsB K us qs) = true from h)
    obtain ⟨a, rfl, ha⟩ := pairB_ok h1
    obtain ⟨xs, r, p⟩ := pairsB_ok h2
    exact ⟨.ref a :: xs, .cons rfl r, .cons ha p⟩
/-- the kind kd has these ranges -/
def Rng (K : PySem.W.Frag) (D : Addr) (kd : Str) (qs : List (Int × Int)) : Prop := ∃ b xs, PySem.W.nsIn K D kd = some (some (.ref b)) ∧ (∀ H, SqT K H b xs) ∧ Pairs K xs qs
theorem rngB_ok {K : PySem.W.Frag} {D : Addr} {kd : Str} {qs : List (Int × Int)} (h : rngB K D kd qs = true) : Rng K D kd qs := by
  unfold rngB at h
  cases e : PySem.W.nsIn K D kd with
  | none =>
    rw [e] at h
    cases h
  | some r =>
    rw [e] at h
    cases r with
    | none => cases h
    | some u =>
      cases u with
      | ref b =>
        have h : (match K.lookup b with
          | some ⟨.type c, _, .seq its _, _⟩ => decide (c = "tuple") && (decide (its.size ≤ sizeLine) && pairsB K its.toList qs)
          | _ => false) = true := h
        cases e2 : K.lookup b with
        | none =>
          rw [e2] at h
          cases h
        | some o =>
          obtain ⟨oc, od, dt, osl⟩ := o
          rw [e2] at h
          cases oc with
          | type c =>
            cases dt with
            | seq its n =>
              obtain ⟨h1, h2⟩ := He.ba h
              obtain ⟨h3, h4⟩ := He.ba h2
              obtain ⟨xs, r, p⟩ := pairsB_ok h4
              exact ⟨b, xs, e, fun H => .inr ⟨_, its, n, e2, congrArg Value.type (of_decide_eq_true h1), rfl, of_decide_eq_true h3, r⟩, p⟩
            | _ => cases h
          | _ => cases dt <;> cases h
      | _ => cases h
/-- RANGES[kind] -/
theorem ix_kd {X : Cx} {d : Addr} {es : Array DictEntry} {n : Nat} (D : KDict X.K X.w d es n) : True := trivial
end Sz
/-! own classes: methods and makers by their promises -/
namespace Sz
open PySem PySem.Spec PyProof.Rows L2
/-- a method's def by its class -/
def DefAtM (K : PySem.W.Frag) (C m q : Str) (st : Stmt) : Prop := ∃ fd, FunD K m q (defArgs st) (defBody st) (defScope st) [] [] (He.ma K (He.ga K C) m) fd
/-- the method m of C keeps the promise sp (the receiver stands first) -/
structure PromM (P : Program) (w : World) (K : PySem.W.Frag) (mg : Str → Option Value) (base : Heap) (CX : CXT) (k : Nat) (C m : Str) (ps : List Str) (sp : Sp) : Prop where
  cl : Cls K (He.ga K C)
  me : Meth K (He.ga K C) m (He.ma K (He.ga K C) m)
  ex : ∃ fd, FnOk P w K mg base CX k (He.ma K (He.ga K C) m) fd ps sp ∧ Binds K fd ps []
/-- C(..) keeps the promise sp: what is told of the values handed in -/
structure PromC (P : Program) (w : World) (K : PySem.W.Frag) (mg : Str → Option Value) (base : Heap) (CX : CXT) (k : Nat) (C : Str) (sp : Sp) : Prop where
  make : Mk K (He.ga K C) (He.ma K (He.ga K C) "__init__")
  mg_ : mg C = some (.ref (He.ga K C))
  ex : ∃ sp0, FnR P w K mg base CX k (He.ma K (He.ga K C) "__init__") sp0 ∧ ∀ vs H Q E, sp vs H Q E → ∀ x dx, H x = none → H dx = none → dx ≠ x →
    sp0 (V.ref x :: vs) (upd (upd H dx (.own x)) x (.ins (He.ga K C) dx [])) (fun v H2 => v = .non ∧ Q (.ref x) H2) E
section
variable {P : Program} {w : World} {K : PySem.W.Frag} {mg : Str → Option Value} {base : Heap}
theorem PromM.of {C m q : Str} {st : Stmt} {ps N : List Str} {sp : Sp} {k : Nat} (cl : Cls K (He.ga K C)) (me : Meth K (He.ga K C) m (He.ma K (He.ga K C) m)) (D : DefAtM K C m q st) (S : FnScope N ps (defScope st)) (len : ∀ vs H Q E, sp vs H Q E → vs.length = ps.length)
    (hb : ∀ (kV doc pm : Value) (an : Option Addr) (cdv ct : Value) (us : List Value), us.length = ps.length → bindArgs (PySem.W.fnOf m q (defArgs st) (defBody st) (defScope st) .none kV doc pm an cdv ct) ⟨us, []⟩ = pure (ps.zip us))
    (hbody : ∀ (f : Addr) (cdv : Value) (A : Around) (outer : List Env) (s : Shared) (H : Hp) (vs : List V) (Q : VK) (E : XK), Room k (A.deeper (envOfC q (defScope st) s.heap.objs.size f cdv)) → sp vs H Q E →
      ∃ t, PSs (cxOf CX0 P w K mg base N q (defScope st) f cdv A outer s H E).nox (defBody st) t ∧ t { nx := fun _ H' => Q .non H', rt := Q } (start N vs) H) :
    PromM P w K mg base CX0 (k + 1) C m ps sp := by
  obtain ⟨fd, F⟩ := D
  refine ⟨cl, me, fd, F.ok S len (fun cdv A outer s H vs Q E hr hs => ?_), F.bindsN hb⟩
  obtain ⟨t, h1, h2⟩ := hbody _ cdv A outer s H vs Q E hr hs
  exact ⟨t, h1.nox, h2⟩
/-- a class whose __init__ takes (self, one, *rest) -/
theorem PromC.star {C q p0 p1 pv : Str} {st : Stmt} {N : List Str} {sp sp0 : Sp} {k : Nat} (mk : Mk K (He.ga K C) (He.ma K (He.ga K C) "__init__")) (hm : mg C = some (.ref (He.ga K C))) (D : DefAtM K C "__init__" q st) (S : FnScope N [p0, p1, pv] (defScope st))
    (h0 : ∀ (kV doc pm : Value) (an : Option Addr) (cdv ct a b : Value), bindArgs (PySem.W.fnOf "__init__" q (defArgs st) (defBody st) (defScope st) .none kV doc pm an cdv ct) ⟨[a, b], []⟩ = (newTuple [] >>= fun t => pure [(p0, a), (p1, b), (pv, t)]))
    (h1 : ∀ (kV doc pm : Value) (an : Option Addr) (cdv ct a b r : Value) (rs : List Value), bindArgs (PySem.W.fnOf "__init__" q (defArgs st) (defBody st) (defScope st) .none kV doc pm an cdv ct) ⟨a :: b :: r :: rs, []⟩ = (newTuple (r :: rs) >>= fun t => pure [(p0, a), (p1, b), (pv, t)]))
    (hbody : ∀ (f : Addr) (cdv : Value) (A : Around) (outer : List Env) (s : Shared) (H : Hp) (vs : List V) (Q : VK) (E : XK), Room k (A.deeper (envOfC q (defScope st) s.heap.objs.size f cdv)) → sp0 vs H Q E →
      ∃ t, PSs (cxOf CX0 P w K mg base N q (defScope st) f cdv A outer s H E).nox (defBody st) t ∧ t { nx := fun _ H' => Q .non H', rt := Q } (start N vs) H)
    (hsp : ∀ vs H Q E, sp vs H Q E → ∃ v rest, vs = v :: rest ∧ rest.length ≤ sizeLine ∧ ∀ x dx p, H x = none → H dx = none → dx ≠ x → p ≠ x → p ≠ dx → H p = none →
      sp0 [.ref x, v, .ref p] (upd (upd (upd H dx (.own x)) x (.ins (He.ga K C) dx [])) p (.tup rest)) (fun u H2 => u = .non ∧ Q (.ref x) H2) E) :
    PromC P w K mg base CX0 (k + 1) C sp := by
  obtain ⟨fd, F⟩ := D
  obtain ⟨oc, od, dV, kV, doc, pm, an, cdv, ct, osl, rfl, lk, hcd, hD, hK⟩ := F.ex
  rcases hD with ⟨_, rfl⟩ | ⟨e, _⟩
  · refine ⟨mk, hm, _, StX.fn_star (ps := [p0, p1]) (pv := pv) (sp := sp0) lk hcd S StX.cxUp_none (StX.bind_star2 (B := fun us => bindArgs _ ⟨us, []⟩) (fun a b => h0 kV doc pm an cdv ct a b) fun a b r rs => h1 kV doc pm an cdv ct a b r rs) (fun A outer s H vs Q E hr hs => ?_), fun vs H Q E hs x dx hx hdx ne => ?_⟩
    · obtain ⟨t, h1, h2⟩ := hbody _ cdv A outer s H vs Q E hr hs
      exact ⟨t, h1.nox, h2⟩
    · obtain ⟨v, rest, rfl, hl, hq⟩ := hsp vs H Q E hs
      refine ⟨[.ref x, v], rest, rfl, rfl, hl, fun p hp => ?_⟩
      have nx : p ≠ x := fun z => by rw [z, upd_same] at hp; cases hp
      rw [upd_ne nx] at hp
      have nd : p ≠ dx := fun z => by rw [z, upd_same] at hp; cases hp
      rw [upd_ne nd] at hp
      exact hq x dx p hx hdx ne nx nd hp
  · exact absurd rfl e
end
section
variable {X : Cx} {CX : CXT} {k : Nat} {x C m : Str} {ps : List Str} {sp : Sp} {E : XK} {e o : Expr} {es : List Expr} {ta : TE} {t : TA} {p pos apos : Pos}
theorem pe_methP {pl : Sem Bool} (G : PromM X.prog X.w X.K X.mg X.base CX k C m ps sp) (hr : Room k X.A) (hx : Passes CX X E) (he : PE X o ta) (ha : PA X (e :: es) t)
    (hst : starEach (e :: es) X.env = (false, eval e X.env) :: starEach es X.env := by rfl) (hpl : (backTo pos (starEach es X.env)).any (·.1) = false := by rfl)
    (ht : eval (.Call (.Attribute o m apos) (e :: es) [] pos) X.env = (do
      let ov ← eval o X.env
      standAt apos.atName
      let (f, first) ← holding [ov] (getMethod ov m pl)
      callWith pos f first (backTo pos (starEach (e :: es) X.env)) (backToKw pos (keywordEach [] X.env))) := by rfl) : PE X (.Call (.Attribute o m apos) (e :: es) [] pos) (tMeth (He.ga X.K C) m sp [] E ta t) := by
  obtain ⟨fd, F, b⟩ := G.ex
  exact pe_meth he G.cl G.me F hr b .nil hx ha hst hpl ht
theorem pe_methP0 {pl : Sem Bool} (G : PromM X.prog X.w X.K X.mg X.base CX k C m ps sp) (hr : Room k X.A) (hx : Passes CX X E) (he : PE X o ta)
    (ht : eval (.Call (.Attribute o m apos) [] [] pos) X.env = (do
      let ov ← eval o X.env
      standAt apos.atName
      let (f, first) ← holding [ov] (getMethod ov m pl)
      callWith pos f first (backTo pos (starEach [] X.env)) (backToKw pos (keywordEach [] X.env))) := by rfl) : PE X (.Call (.Attribute o m apos) [] [] pos) (tMeth (He.ga X.K C) m sp [] E ta tNil) := by
  obtain ⟨fd, F, b⟩ := G.ex
  exact pe_meth0 he G.cl G.me F hr b .nil hx ht
/-- C(e, ..) by what is promised of it -/
def tNew (sp : Sp) (E : XK) (t : TA) : TE := fun σ H Q => t σ H fun vs H1 => sp vs H1 Q E
theorem pe_newP (G : PromC X.prog X.w X.K X.mg X.base CX k x sp) (hr : Room (k + 1) X.A) (hg : Gl X x) (hx : Passes CX X E) (ha : PA X (e :: es) t)
    (hdb : (x == ("__debug__" : Str)) = false := by decide) (he : starEach (e :: es) X.env = (false, eval e X.env) :: starEach es X.env := by rfl) (hpl : (backTo pos (starEach es X.env)).any (·.1) = false := by rfl) :
    PE X (.Call (.Name x p) (e :: es) [] pos) (tNew sp E t) := by
  obtain ⟨sp0, F, hs⟩ := G.ex
  refine ⟨fun pins s σ H Q I h => wpAny_Call_Name_kw (ld_glob I hg G.mg_ (PySem.W.callWith_K (h₀ := X.base) I.ok.mod.kin G.make.kp (thn (ha.run pos pins s σ H _ I h) fun us s1 ⟨vs, H1, I1, r, q⟩ => ⟨I1.kIn, ?_⟩) he hpl) hdb)⟩
  exact StX.run_makeR G.make F hr hx I1 r fun a dx h1 h2 h3 => hs vs H1 Q E q a dx h1 h2 h3
/-- C(e, .., *y) -/
theorem pe_newS (G : PromC X.prog X.w X.K X.mg X.base CX k x sp) (hr : Room (k + 1) X.A) (hg : Gl X x) (hx : Passes CX X E) (ha : PA X (e :: es) t)
    (hdb : (x == ("__debug__" : Str)) = false := by decide) (he : starEach (e :: es) X.env = (false, eval e X.env) :: starEach es X.env := by rfl) (hst : (backTo pos (starEach es X.env)).any (·.1) = true := by rfl) :
    PE X (.Call (.Name x p) (e :: es) [] pos) (tNew sp E t) := by
  obtain ⟨sp0, F, hs⟩ := G.ex
  refine ⟨fun pins s σ H Q I h => wpAny_Call_Name_kw (ld_glob I hg G.mg_ (PySem.W.callWith_S2 (h₀ := X.base) I.ok.mod.kin G.make.kp (thn (ha.run pos pins s σ H _ I h) fun us s1 ⟨vs, H1, I1, r, q⟩ => ⟨I1.kIn, ?_⟩) he hst) hdb)⟩
  exact StX.run_makeR G.make F hr hx I1 r fun a dx h1 h2 h3 => hs vs H1 Q E q a dx h1 h2 h3
end
/-- s[i], s a list or a tuple -/
theorem ix_any {X : Cx} : IxR X (fun x y H Q => rIxL X.K x y H Q ∨ rIxT X.K x y H Q) := by
  intro value slice pins s σ H x y v u Q I rx ry h hs
  rcases h with h | h
  · exact ix_list value slice pins s σ H x y v u Q I rx ry h hs
  · exact ix_tup value slice pins s σ H x y v u Q I rx ry h hs
theorem pe_gstr {X : Cx} {x : Str} {pos : Pos} {v : Str} (h : ∃ u, X.mg x = some (.str v u)) (hg : Gl X x := by rfl) (hd : (x == ("__debug__" : Str)) = false := by decide) : PE X (.Name x pos) (tC (.str v)) := by
  obtain ⟨u, hm⟩ := h
  exact pe_glob hg hm ⟨_, rfl⟩ hd
/-- what isinstance asks of an own class -/
structure IsiK (K : PySem.W.Frag) (C : Addr) : Prop where
  cl : Cls K C
  ha : PySem.W.findIn K (.ref C) "__class__" = some (some (.builtin "object.__class__"))
  hn : PySem.W.specialIn K (.builtin "object.__class__") "__get__" = some (some (.builtin "getset_descriptor.__get__"))
  htk : PySem.W.takesIn K (.builtin "object.__class__") = some true
  hm : PySem.W.mroIn K C (.type "object") = some true
def isiB (K : PySem.W.Frag) (C : Addr) : Bool := He.eqO (PySem.W.findIn K (.ref C) "__class__") (some (some (.builtin "object.__class__"))) && (He.eqO (PySem.W.specialIn K (.builtin "object.__class__") "__get__") (some (some (.builtin "getset_descriptor.__get__"))) &&
  (decide (PySem.W.takesIn K (.builtin "object.__class__") = some true) && decide (PySem.W.mroIn K C (.type "object") = some true)))
theorem isiB_ok {K : PySem.W.Frag} {C : Addr} (cl : Cls K C) (h : isiB K C = true) : IsiK K C := by
  obtain ⟨h1, h⟩ := He.ba h
  obtain ⟨h2, h⟩ := He.ba h
  obtain ⟨h3, h4⟩ := He.ba h
  exact ⟨cl, He.eqO_ok h1, He.eqO_ok h2, of_decide_eq_true h3, of_decide_eq_true h4⟩
theorem IsiK.ty {K : PySem.W.Frag} {C : Addr} (i : IsiK K C) {H : Hp} {a dx : Addr} {fs : List (Str × V)} (h : H a = some (.ins C dx fs)) : TyX K H (.ref a) (.ref C) := .base (.ins h i.cl i.ha i.hn i.htk i.hm)
theorem kit_self {K : PySem.W.Frag} {t : Value} : PySem.W.kitOne K t t = some true := by
  unfold PySem.W.kitOne
  rw [if_pos (by simp)]
end Sz
/-! enumerate over a tuple (the hand layer has it for lists): by what the tuple's iterator draws -/
namespace Sz
open PySem PySem.Spec PyProof.Rows L2
/-- enumerate(v) where iter(v) begins an object o -/
theorem meets_enum1 {v : Value} {o : Obj} {Hh : Heap → Prop} (B : Begins v o Hh) : Meets (Builtin.«enumerate.__new__» ⟨[.type "enumerate", v], []⟩) (fun _ R s => Hh s.heap ∧ R (.ok (.ret (.ref (s.heap.push o).objs.size)))
    { s with heap := (s.heap.push o).push { cls := .type "enumerate", data := .fields #[.none, .bool false, .ref s.heap.objs.size, rawInt 0, .none, .none] } }) := .of_wp fun prog w A R s h => by
  obtain ⟨hp, g, d, tk, os⟩ := s
  have hsub := sub_enumerate
  have it1 : ∀ {A' : Around} {Ex : Value → Shared → Prop} {Q : Value → Shared → Prop}, Q (.ref hp.objs.size) ⟨hp.push o, g, d, tk, os⟩ → wpAny (model prog w) A' (pyIter v) Q Ex ⟨hp, g, d, tk, os⟩ := fun q => B.iter prog w _ _ ⟨hp, g, d, tk, os⟩ _ h.1 q
  wp_walk using it1
  refine wpAny_stack_any (fun st => wpAny_pure ?_)
  split
  · rename_i c _ _ _ _ _
    cases (c == Value.type "enumerate") <;> (wp_walk using it1; exact ⟨_, rfl, h.2⟩)
  · wp_walk using it1
    exact ⟨_, rfl, h.2⟩
theorem call_enum1 {prog : Program} {w : World} {A : Around} {Ex : Value → Shared → Prop} {s : Shared} {v : Value} {o : Obj} {Hh : Heap → Prop} {Q : Value → Shared → Prop} (B : Begins v o Hh) (h1 : Hh s.heap)
    (k : ∀ h', IsEnum h' (s.heap.objs.size + 1) s.heap.objs.size 0 .none → h'.get? s.heap.objs.size = some o → (∀ b u, s.heap.get? b = some u → h'.get? b = some u) → Q (.ref (s.heap.objs.size + 1)) { s with heap := h' }) :
    wpAny (model prog w) A (call (.type "enumerate") [v]) Q Ex s := by
  refine callType_new F.called_enumerate (by decide) (F.typeCall_enumerate_1 _) (F.newCall_enumerate_1 _) (fun obj => F.args_object_init_2 obj _) F.entry_enumerate_new (meets_enum1 B) ⟨h1, ?_⟩
  have z : (s.heap.push o).objs.size = s.heap.objs.size + 1 := Heap.size_push ..
  have e := Heap.get?_push_size (s.heap.push o) (o := { cls := .type "enumerate", data := .fields #[.none, .bool false, .ref s.heap.objs.size, rawInt 0, .none, .none] }) rfl
  rw [z] at e
  show _ ∧ _
  rw [z]
  exact ⟨⟨_, e, rfl⟩, k _ e (Heap.get?_push_of_some _ (Heap.get?_push_size _ B.free)) fun b u x => Heap.get?_push_of_some _ (Heap.get?_push_of_some _ x)⟩

/-- the tuple at a, each item in a new pair -/
def IteT (K : PySem.W.Frag) (a : Addr) : It where
  go := fun i H => ∃ (xs : List V) (x : V), SqT K H a xs ∧ xs[i]? = some x
  yld := fun i H v H' => ∃ T x, v = .ref T ∧ H T = none ∧ H' = upd H T (.tup [.int (i : Nat), x]) ∧ ∀ xs, SqT K H a xs → xs[i]? = some x
  stop := fun i H => ∃ xs : List V, SqT K H a xs ∧ xs.length ≤ i
section
variable {X : Cx} {pins : List (Addr × Obj)} {σ : L2.St} {H : Hp} {s : Shared} {a e it : Addr} {i : Nat} {old : Value} {its : List Value}
theorem enumT_walks (hd : X.A.handled = none) (he : IsEnum s.heap e it ((i : Nat) : Int) old) (hit : s.heap.IsTupleIter it a i) (hne : e ≠ it) (p : s.heap.IsTuple a its.toArray) :
    WalksT X.prog X.w X.A e [e, it, a] [e, it] its.toArray.size (fun i vals => ∃ t x, its.toArray[i]? = some x ∧ vals = #[.int i t, x]) (fun i h => (∃ old, IsEnum h e it i old) ∧ h.IsTupleIter it a i ∧ h.IsTuple a its.toArray)
      (fun i T h => (∃ x, IsEnumOut h e it ((i : Int) + 1) x T) ∧ (h.IsTupleIter it a (i + 1) ∧ h.IsTuple a its.toArray) ∧ T ≠ e ∧ T ≠ it) := by
  have n1 : a ≠ it := fun z => by
    obtain ⟨o1, q1, c1, _⟩ := p
    obtain ⟨o2, q2, c2, _⟩ := hit
    rw [z, q2] at q1
    cases q1
    exact absurd (c2.symm.trans c1) (by decide)
  have n2 : e ≠ a := fun z => by
    obtain ⟨o1, q1, c1, _⟩ := p
    have he' : s.heap.get? e = _ := he
    rw [z, q1] at he'
    cases he'
    have c1 : Value.type "enumerate" = Value.type "tuple" := c1
    exact absurd c1 (by decide)
  exact WalksT.enumerateD (A := X.A) (Draws.tuple (A := X.A.in1) hd it a n1 its.toArray) e hne (by simp [hne, n2]) (by simp)
end
theorem enumT_done {prog : Program} {w : World} {A : Around} {Ex : Value → Shared → Prop} {s : Shared} {a e it : Addr} {i : Nat} {old : Value} {items : Array Value} {Q : Option Value → Shared → Prop} (hh : A.handled = none) (he : IsEnum s.heap e it ((i : Nat) : Int) old)
    (hit : s.heap.IsTupleIter it a i) (p : s.heap.IsTuple a items) (hx : items[i]? = none) (k : ∀ h', Heap.ExtBut it s.heap h' → Q none { s with heap := h' }) : wpAny (model prog w) A (pyNext (.ref e)) Q Ex s := by
  unfold pyNext
  refine wpAny_bind (wpAny_attempt (wpAny_callSpecial?_slot (name := Str.ofString "__next__") ⟨_, he, rfl⟩ F.slot_enumerate_next (wpAny_call_entry F.slot_enumerate_next ⟨_, he, rfl⟩ F.entry_enumerate_next ?_ (F.args_enumerate_next_1 _))))
  show wpAny _ _ (field (.ref e) 2 >>= _) _ _ s
  refine wpAny_bind (wpAny_field he rfl (x := .ref it) rfl (wpAny_bind (wpAny_nextOf_tuple_end hh hit p hx fun h' x ext ⟨o, ho, hc⟩ => ?_)))
  exact wpAny_bind (wpAny_isInstance (T := "StopIteration") (b := true) ⟨o, ho, hc⟩ isSubtype_stop (wpAny_pure (k _ ext)))
theorem turn_enumT {P : Program} {w : World} {K : PySem.W.Frag} {elts : List Expr} {kk : Nat} {tpos : Pos} (a e it : Addr) :
    Turn P w K (.Tuple elts kk tpos) (IteT K a) [e, it] e (fun i h => (∃ old, IsEnum h e it ((i : Nat) : Int) old) ∧ h.IsTupleIter it a i ∧ e ≠ it) where
  mem := List.mem_cons_self ..
  obj := fun i h st b hb => by
    obtain ⟨⟨old, he⟩, ⟨o, ho, _, hd⟩, _⟩ := st
    rcases List.mem_cons.mp hb with z | z
    · subst z
      exact ⟨_, he, fun v q => nomatch q⟩
    · rw [List.mem_singleton.mp z]
      exact ⟨o, ho, fun v q => by rw [hd] at q; cases q⟩
  keep := fun i h h' ⟨⟨old, he⟩, hi, hne⟩ k => ⟨⟨old, k e (List.mem_cons_self ..) _ he⟩, hi.at fun o q => k it (List.mem_cons_of_mem _ (List.mem_cons_self ..)) o q, hne⟩
  item := by
    intro X hP hw hK hc i pins s σ H E I hf ⟨⟨old, he⟩, hit, hne⟩ ⟨xs, x, hq, hx⟩
    subst hP hw hK
    obtain ⟨its, rv, p, hz⟩ := I.tuple hq
    obtain ⟨u, hu, ru⟩ := rv.get hx
    have p' : s.heap.IsTuple a its.toArray := p
    have W := enumT_walks (X := X) (I.ok.hd hc) he hit hne p'
    have hlt : i < its.toArray.size := by simpa using (List.getElem?_eq_some_iff.mp hu).1
    refine W.item i s _ E hlt ⟨⟨old, he⟩, hit, p'⟩ fun T vals h' tk hv hT isT mid k1 => ⟨_, rfl, ?_⟩
    obtain ⟨t, y, hy, rfl⟩ := hv
    have ey : u = y := by
      have e1 : its.toArray[i]? = some u := by simpa using hu
      exact Option.some.inj (e1.symm.trans hy)
    subst ey
    refine W.go elts kk tpos i T { s with heap := h', toks := tk } _ E mid fun h2 st2 k2 => ?_
    have away := W.apart i T h' mid
    obtain ⟨oT, hoT, cT, nT, dT⟩ := isT
    have hoT2 : h2.get? T = some oT := k2 T oT away hoT
    have new : ObjOk X.prog X.w (upd H T (.tup [.int (i : Nat), x])) h2 T (.tup [.int (i : Nat), x]) := ⟨by show 2 ≤ sizeLine; decide, [.int i t, u], .cons ⟨_, rfl⟩ (.cons ru .nil), ⟨oT, hoT2, cT, nT, dT⟩⟩
    have I1 : Inv X pins σ (upd H T (.tup [.int (i : Nat), x])) { s with heap := h2, toks := tk } := I.turnedNew (ch := [e, it]) (fun b ob hb q => k2 b ob hb (k1 b ob hb q)) hf hT new
    refine ⟨.ref T, _, I1, rfl, ⟨T, x, rfl, I.hok.fresh hT, rfl, fun ys hy => by rw [I.tuple_inj hy hq]; exact hx⟩, ⟨st2.1, st2.2.1, hne⟩, fun b hb => ?_⟩
    have nb : b ≠ T := fun z => away (by rw [← z]; exact hb)
    rw [upd_ne nb]
    exact (hf b hb).1
  done := by
    intro X hP hw hK hc i pins s σ H E I hf ⟨⟨old, he⟩, hit, hne⟩ ⟨xs, hq, hx⟩
    subst hP hw hK
    obtain ⟨its, rv, p, hz⟩ := I.tuple hq
    have p' : s.heap.IsTuple a its.toArray := p
    have hl := rv.length
    obtain ⟨o, ho, cT, nT, dT⟩ := id p'
    obtain ⟨f0, f1, f2, f3, f4, f5⟩ := hf it (List.mem_cons_of_mem _ (List.mem_cons_self ..))
    refine enumT_done (I.ok.hd hc) he hit p' (by simp; omega) fun h' ex => ⟨rfl, I.turned (t' := s.toks) (fun b ob hb q => ex b ob hb q) f0 f1 f3 f4 f5⟩
  self := fun A i s Q E ⟨⟨_, he⟩, _⟩ h => wpAny_pyIter_enum he h
def iEnumT (K : PySem.W.Frag) (ta : TA) : TI := fun σ H R => ta σ H fun vs H1 => ∃ a xs, vs = [.ref a] ∧ SqT K H1 a xs ∧ R (IteT K a) H1
theorem pi_enumT {X : Cx} {e : Expr} {ta : TA} {p pos tpos : Pos} {elts : List Expr} {kk : Nat} (hg : Gl X "enumerate") (hm : X.mg "enumerate" = none) (ha : PA X [e] ta) (hs : starEach [e] X.env = [(false, eval e X.env)] := by rfl) :
    PI X (.Tuple elts kk tpos) (.Call (.Name "enumerate" p) [e] [] pos) (iEnumT X.K ta) := by
  refine ⟨fun pins s σ H R I h => Call_ (ld_blt I hg hm boot_enumerate (PyProof.Rows.callWith_type1 (thn (ha.run pos pins s σ H _ I h) fun us s1 ⟨vs, H1, I1, r1, q1⟩ => ?_) hs rfl))⟩
  obtain ⟨a, xs, rfl, hq, q⟩ := q1
  cases r1 with
  | cons r rr =>
    cases rr
    cases r
    obtain ⟨its, rv, p', hz⟩ := I1.tuple hq
    refine call_enum1 (begins_tuple a its.toArray) (show s1.heap.IsTuple a its.toArray from p') fun h' he hit hk => wpAny_pyIter_enum he ?_
    refine ⟨s1.heap.objs.size + 1, [s1.heap.objs.size + 1, s1.heap.objs.size], _, _, H1, rfl, I1.kept (t' := s1.toks) hk, turn_enumT a _ _, ⟨⟨.none, he⟩, ⟨_, hit, rfl, rfl⟩, Nat.succ_ne_self _⟩, fun b hb => ?_, q⟩
    have hle : s1.heap.objs.size ≤ b := by
      rcases List.mem_cons.mp hb with z | z
      · rw [z]
        exact Nat.le_add_right _ 1
      · rw [List.mem_singleton.mp z]
        exact Nat.le_refl _
    exact I1.fpOk hle (I1.hok.fresh hle)
theorem walk_enumT {K : PySem.W.Frag} {a : Addr} {xs : List V} : Walk (IteT K a) xs.length (fun H => SqT K H a xs) (YPair (fun i => some (.int (i : Nat))) (fun i => xs[i]?)) :=
  ⟨fun i _ hi q => ⟨xs, xs[i], q, by simp [hi]⟩, fun _ q => ⟨xs, q, Nat.le_refl _⟩, fun i H v H' _ q ⟨T, x, h1, h2, h3, h4⟩ => ⟨T, .int (i : Nat), x, h1, h2, h3, rfl, h4 xs q⟩⟩
end Sz
namespace Sz
open PySem PySem.Spec PyProof.Rows L2
/-! ### ranges of integers of any size -/
theorem turn_long {P : Program} {w : World} {K : PySem.W.Frag} {tg : Expr} (it : Addr) (lo : Int) (n : Nat) :
    Turn P w K tg (Itr lo n) [it] it (fun i h => IsLongIter h it (lo + (i : Nat) * 1) ((n : Int) - (i : Nat)) 1) := by
  have fpit : ∀ {X : Cx} {pins : List (Addr × Obj)} {σ : L2.St} {H : Hp} {s : Shared} {h' : Heap} {tk : Nat}, Inv X pins σ H s → FpOk X pins H it → (∀ b o, b ≠ it → s.heap.get? b = some o → h'.get? b = some o) → Inv X pins σ H { s with heap := h', toks := tk } := fun I f k => by
    obtain ⟨g0, g1, _, g3, g4, g5⟩ := f
    exact I.turned k g0 g1 g3 g4 g5
  constructor
  · exact List.mem_singleton_self it
  · intro i h z b hb
    cases List.mem_singleton.mp hb
    refine ⟨_, z, fun v y => ?_⟩
    have y' : Data.fields _ = Data.cell v := y
    cases y'
  · exact fun i h h' z keep => keep it (List.mem_singleton_self it) _ z
  · intro X e1 e2 e3 calm i pins s σ H E I fp z go
    subst e1 e2 e3
    have wk := Walks.longrange (prog := X.prog) (w := X.w) (I.ok.hd calm) it lo 1 n
    refine wk.item i s _ _ go z ?_
    rintro v h' tk ⟨t, rfl⟩ z' kp
    have J := fpit (tk := tk) I (fp it (List.mem_singleton_self it)) fun b o hb e => kp b o (by simpa using hb) e
    refine ⟨_, rfl, go_of (s := { s with heap := h', toks := tk }) (n := "longrange_iterator") z' rfl rfl (by decide) ?_⟩
    exact ⟨.int (lo + i), H, J, ⟨t, by rw [Int.mul_one]⟩, ⟨rfl, rfl⟩, z', fun b hb => (fp b hb).1⟩
  · intro X e1 e2 e3 calm i pins s σ H E I fp z stop
    subst e1 e2 e3
    refine wpAny_pyNext_long_end (I.ok.hd calm) z (by have : n ≤ i := stop; omega) fun h' eb => ⟨rfl, ?_⟩
    exact fpit (tk := s.toks) I (fp it (List.mem_singleton_self it)) eb
  · exact fun A i s Q E z h => wpAny_pyIter_longiter z h
section
variable {X : Cx} {tg : Expr}
theorem range_any {pins : List (Addr × Obj)} {σ : L2.St} {H : Hp} {s : Shared} {R : It → Hp → Prop} {E : Value → Shared → Prop} {lo hi : Int} {t u v : Tok} {tk : Nat} (I : Inv X pins σ H s)
    (q : R (Itr lo (hi - lo).toNat) H) : wpAny (model X.prog X.w) X.A (pyIter (.ref s.heap.objs.size)) (PIE X pins σ tg R) E { s with heap := s.heap.push { cls := .type "range", data := .fields #[.int lo t, .int hi u, .int 1 v] }, toks := tk } := by
  generalize hr : s.heap.push { cls := .type "range", data := .fields #[.int lo t, .int hi u, .int 1 v] } = hp
  have J : Inv X pins σ H { s with heap := hp, toks := tk } := by
    rw [← hr]
    exact I.kept fun b o e => Heap.get?_push_of_some _ e
  have fresh : ∀ b ∈ [hp.objs.size], FpOk X pins H b := fun b hb => by
    cases List.mem_singleton.mp hb
    exact J.fpOk (Nat.le_refl _) (J.hok.fresh (Nat.le_refl _))
  have ir : IsRange hp s.heap.objs.size lo hi 1 t u v := by
    rw [← hr]
    exact IsRange.new ..
  have x0 : lo + ((0 : Nat) : Int) * 1 = lo := by simp
  have n0 : (((hi - lo).toNat : Nat) : Int) - ((0 : Nat) : Int) = Builtin.Range.rangeSize lo hi 1 := by
    rw [rangeSize_one]
    split <;> omega
  cases sm : Builtin.Range.small lo hi 1 with
  | true =>
    refine wpAny_pyIter_range ir sm ?_
    refine ⟨hp.objs.size, [hp.objs.size], _, _, H, rfl, J.kept (t' := tk) fun b o e => Heap.get?_push_of_some _ e, turn_range _ lo (hi - lo).toNat, ?_, fresh, q⟩
    show IsRangeIter _ _ (lo + ((0 : Nat) : Int) * 1) ((((hi - lo).toNat : Nat) : Int) - ((0 : Nat) : Int)) 1
    rw [x0, n0]
    exact Heap.get?_push_size hp rfl
  | false =>
    refine wpAny_pyIter_longrange ir sm ?_
    refine ⟨hp.objs.size, [hp.objs.size], _, _, H, rfl, J.kept (t' := tk) fun b o e => Heap.get?_push_of_some _ e, turn_long _ lo (hi - lo).toNat, ?_, fresh, q⟩
    show IsLongIter _ _ (lo + ((0 : Nat) : Int) * 1) ((((hi - lo).toNat : Nat) : Int) - ((0 : Nat) : Int)) 1
    rw [x0, n0]
    exact Heap.get?_push_size hp rfl
def iRngA (ta : TA) : TI := fun σ H R => ta σ H fun vs H1 => ∃ i j : Int, vs = [.int i, .int j] ∧ R (Itr i (j - i).toNat) H1
theorem pi_range2A {a b : Expr} {ta : TA} {p pos : Pos} (hg : Gl X "range") (hm : X.mg "range" = none) (ha : PA X [a, b] ta) (s1 : starEach [a, b] X.env = [(false, eval a X.env), (false, eval b X.env)] := by rfl) (s2 : starEach [b] X.env = [(false, eval b X.env)] := by rfl) :
    PI X tg (.Call (.Name "range" p) [a, b] [] pos) (iRngA ta) := by
  constructor
  intro pins s σ H R I h
  refine Call_ (ld_blt I hg hm boot_range (PyProof.Rows.callWith_type1 (thn (ha.run pos pins s σ H _ I h) ?_) (by rw [s1, s2]) (by rw [s2]; rfl)))
  rintro us sA ⟨vs, H1, I1, r1, i, j, rfl, q⟩
  obtain ⟨t, t', rfl⟩ := Vals.int2 r1
  exact call_range_2 (range_any I1 q)
end
end Sz
namespace Sz
open PySem PySem.Spec PyProof.Rows L2
/-! ### list(range(a, b)) of integers of any size -/
section
variable {prog : Program} {w : World} {A : Around} {E : Value → Shared → Prop} {s : Shared}
/-- L.extend(range(a, b)), L empty -/
theorem extend_long {R : Result → Shared → Prop} {r : Addr} {a b : Int} {t u v : Tok} {n : Nat} (calm : A.handled = none) (ir : IsRange s.heap r a b 1 t u v) (big : Builtin.Range.small a b 1 = false) (size : Builtin.Range.rangeSize a b 1 = n) (few : n ≤ 2 ^ 24)
    (L : Addr) (out : Value) (c : Nat) (hL : s.heap.get? L = some { cls := .type "list", data := .seq #[] c })
    (goal : ∀ h' tk its c', (∀ x o, x ≠ L → s.heap.get? x = some o → h'.get? x = some o) → h'.get? L = some { cls := .type "list", dict := none, data := .seq its c', slots := #[] } → ItemsOf (fun i z => ∃ y, z = .int (a + i * 1) y) its n →
      R (.ok (.ret out)) { s with heap := h', toks := tk }) :
    wpAny (model prog w) A.in1 (Builtin.List.listExtendWith (.ref L) (.ref r) out) (fun fin s' => match fin with
      | .done f => R (.ok f) s'
      | .again c' => c'.quiet = true ∧ codeAny (model prog w) A c' R s') (fun e s' => R (.error e) s') s := by
  have ne1 : L ≠ r := by
    rintro rfl
    rw [ir] at hL
    simp at hL
  have ne2 : L ≠ s.heap.objs.size := Nat.ne_of_lt (Heap.lt_size hL)
  have wk := (Walks.longrange (prog := prog) (w := w) (A := A.in1) calm s.heap.objs.size a 1 n).toS
  have loop : ∀ (h : Heap) (c1 tk : Nat), IsLongIter h s.heap.objs.size (a + ((0 : Nat) : Int) * 1) ((n : Int) - ((0 : Nat) : Int)) 1 → (∀ x o, x ≠ L → s.heap.get? x = some o → h.get? x = some o) → h.get? L = some { cls := .type "list", data := .seq #[] c1 } →
      codeAny (model prog w) A (.builtin "list.extend.loop" ⟨[.ref L, .ref s.heap.objs.size, out], []⟩) R { s with heap := h, toks := tk } := fun h c1 tk z kp hl => by
    refine codeAny_extend_loopS wk (by rw [sizeLine_eq]; omega) L (fun m => ne2 (List.mem_singleton.mp m)) out n 0 _ #[] c1 rfl (Nat.zero_le _) z hl (ItemsOf.nil _) ?_
    intro s' its c' mv hl' hi
    rw [Moved.eq_with mv]
    refine goal s'.heap s'.toks its c' (fun x o hx e => mv.heap x o (fun m => ?_) (kp x o hx e)) hl' hi
    cases List.mem_cons.mp m with
    | inl q => exact hx q
    | inr q =>
      have q1 := List.mem_singleton.mp q
      rw [q1] at e
      exact absurd (Heap.lt_size e) (Nat.lt_irrefl _)
  unfold Builtin.List.listExtendWith
  refine wpAny_bind (wpAny_typeOf (T := "range") ⟨_, ir, rfl⟩ ?_)
  have f1 : Builtin.List.listSameRef (.ref L) (.ref r) = false := by
    simp [Builtin.List.listSameRef, ne1]
  have f2 : (Value.type "range" == Value.type "list") = false := by decide
  have f3 : (Value.type "range" == Value.type "tuple") = false := by decide
  simp only [f1, f2, f3, Bool.or_false, Bool.false_eq_true, if_false]
  refine wpAny_bind (wpAny_pyIter_longrange ir big (wpAny_bind (wpAny_holding (wpAny_hint_range (n := n) (Heap.get?_push_of_some _ ir) size few ?_))))
  generalize hg : s.heap.push { cls := .type "longrange_iterator", data := .fields #[rawInt a, rawInt (Builtin.Range.rangeSize a b 1), rawInt 1] } = g
  have gi : IsLongIter g s.heap.objs.size (a + ((0 : Nat) : Int) * 1) ((n : Int) - ((0 : Nat) : Int)) 1 := by
    have x0 : a + ((0 : Nat) : Int) * 1 = a := by simp
    have x1 : (n : Int) - ((0 : Nat) : Int) = Builtin.Range.rangeSize a b 1 := by rw [size]; simp
    rw [x0, x1, ← hg]
    exact Heap.get?_push_size _ rfl
  have gk : ∀ x o, s.heap.get? x = some o → g.get? x = some o := fun x o e => by
    rw [← hg]
    exact Heap.get?_push_of_some _ e
  have gL := gk L _ hL
  refine wpAny_ite_split (fun _ => ?_) fun _ => wpAny_pure ⟨plainId_quiet F.plain_extend_loop _, loop _ c _ gi (fun x o _ e => gk x o e) gL⟩
  refine wpAny_bind (wpAny_rule (wpAny_bind ?_))
  show wpAny _ _ (updateSeq L (·.push .none) >>= fun _ => updateSeq L (·.pop)) _ _ _
  refine wpAny_bind (wpAny_updateSeq gL rfl ?_)
  have m1 := Heap.get?_update_self (Obj.mapSeq (·.push Value.none)) gL rfl
  refine wpAny_updateSeq (hz := by seq_fits) m1 rfl (wpAny_pure ⟨plainId_quiet F.plain_extend_loop _, loop _ _ _ ?_ (fun x o hx e => ?_) (Heap.get?_update_self (Obj.mapSeq (·.pop)) m1 rfl)⟩)
  · exact (Heap.get?_update_other _ _ ne2).trans ((Heap.get?_update_other _ _ ne2).trans gi)
  · exact (Heap.get?_update_other _ _ (Ne.symm hx)).trans ((Heap.get?_update_other _ _ (Ne.symm hx)).trans (gk x o e))
theorem call_list_long {Q : Value → Shared → Prop} {r : Addr} {a b : Int} {t u v : Tok} {n : Nat} (calm : A.handled = none) (ir : IsRange s.heap r a b 1 t u v) (big : Builtin.Range.small a b 1 = false) (size : Builtin.Range.rangeSize a b 1 = n) (few : n ≤ 2 ^ 24)
    (goal : ∀ h' tk its c', (∀ x o, s.heap.get? x = some o → h'.get? x = some o) → h'.get? s.heap.objs.size = some { cls := .type "list", dict := none, data := .seq its c', slots := #[] } → ItemsOf (fun i z => ∃ y, z = .int (a + i * 1) y) its n →
      Q (.ref s.heap.objs.size) { s with heap := h', toks := tk }) : wpAny (model prog w) A (call (.type "list") [.ref r]) Q E s := by
  refine callType_codes (Q₁ := fun obj s1 => obj = .ref s.heap.objs.size ∧ s1 = { s with heap := s.heap.push { cls := .type "list", data := .seq #[] } }) F.called_list (F.typeCall_list_1 _) F.entry_list_init (code_list_new _ ⟨rfl, rfl⟩) ?_
  rintro _ _ ⟨rfl, rfl⟩
  generalize hg : s.heap.push { cls := .type "list", data := .seq #[] } = g
  have gk : ∀ x o, s.heap.get? x = some o → g.get? x = some o := fun x o e => by
    rw [← hg]
    exact Heap.get?_push_of_some _ e
  have gL : g.get? s.heap.objs.size = some { cls := .type "list", data := .seq #[] } := by
    rw [← hg]
    exact Heap.get?_push_size _ rfl
  have lt : ∀ x o, s.heap.get? x = some o → x ≠ s.heap.objs.size := fun x o e => Nat.ne_of_lt (Heap.lt_size e)
  generalize hS : s.heap.objs.size = L at gL goal lt
  have nr : r ≠ L := lt r _ ir
  refine ⟨⟨_, gL, rfl⟩, F.args_list_init_2 _ _, ?_⟩
  show wpAny _ _ (do let old ← Builtin.List.listItems (.ref L); Builtin.List.listUpdate (.ref L) (fun _ => #[]); letGo old.toList.reverse; Builtin.List.listExtendWith (.ref L) (.ref r) .none) _ _ _
  unfold Builtin.List.listItems
  refine wpAny_bind (wpAny_bind (wpAny_seqItems gL rfl (wpAny_pure ?_)))
  show wpAny _ _ (updateSeq L (fun _ => #[]) >>= fun _ => letGo (#[] : Array Value).toList.reverse >>= fun _ => Builtin.List.listExtendWith (.ref L) (.ref r) .none) _ _ _
  refine wpAny_bind (wpAny_updateSeq gL rfl (wpAny_bind (wpAny_letGo ?_)))
  have ot : ∀ x o, x ≠ L → g.get? x = some o → (g.update L (Obj.mapSeq (fun _ => (#[] : Array Value)))).get? x = some o := fun x o hx e => (Heap.get?_update_other _ _ (Ne.symm hx)).trans e
  refine extend_long (A := A.in1) calm (ot r _ nr (gk r _ ir)) big size few L .none _ (Heap.get?_update_self (Obj.mapSeq (fun _ => (#[] : Array Value))) gL rfl) fun h' tk its c' kp hl' hi => ?_
  exact ⟨rfl, goal h' tk its c' (fun x o e => kp x o (lt x o e) (ot x o (lt x o e) (gk x o e))) hl' hi⟩
end
section
variable {X : Cx} {e : Expr} {te : L2.St → Hp → (Int → Int → Hp → Prop) → Prop}
def tLstA (te : L2.St → Hp → (Int → Int → Hp → Prop) → Prop) : TE := fun σ H Q => te σ H fun a b H1 => (b - a).toNat ≤ 1000000 ∧ ∀ q, H1 q = none → Q (.ref q) (upd H1 q (.lst (rgV a b)))
/-- list(range(..)) -/
theorem pe_listA {p pos : Pos} (hc : X.calm = true) (hg : Gl X "list") (hm : X.mg "list" = none) (he : PRg X e te) (na : starEach [e] X.env = (false, eval e X.env) :: starEach [] X.env := by rfl) : PE X (.Call (.Name "list" p) [e] [] pos) (tLstA te) := by
  constructor
  intro pins s σ H Q I h
  refine Call_ (ld_blt I hg hm boot_list (PyProof.Rows.callWith_type1 (args_cons (thn (he pins s σ H _ I h) ?_) na) na))
  rintro _ s1 ⟨r, a, b, t, u, v, H1, rfl, ir, J, few, q⟩
  refine args_nil ?_
  have few2 : (b - a).toNat ≤ 2 ^ 24 := Nat.le_trans few (by decide)
  have fin : ∀ h' tk its c', (∀ x o, s1.heap.get? x = some o → h'.get? x = some o) → h'.get? s1.heap.objs.size = some { cls := .type "list", dict := none, data := .seq its c', slots := #[] } → ItemsOf (fun i z => ∃ y, z = .int (a + i * 1) y) its (b - a).toNat →
      EP X pins σ Q (.ref s1.heap.objs.size) { s1 with heap := h', toks := tk } := fun h' tk its c' kp at_ hi => by
    refine ⟨.ref s1.heap.objs.size, upd H1 s1.heap.objs.size (.lst (rgV a b)), J.laid kp (Nat.le_refl _) ?_, rfl, q _ (J.hok.fresh (Nat.le_refl _))⟩
    refine (show ObjOk X.prog X.w _ _ _ (.lst (rgV a b)) from ⟨?_, its.toList, c', vals_rg hi, ?_⟩)
    · rw [rgV_length, sizeLine_eq]
      omega
    · rw [Array.toArray_toList]
      exact at_
  cases sm : Builtin.Range.small a b 1 with
  | true => exact call_list_range (J.ok.hd hc) ir sm (rangeSize_nat a b) few2 fin
  | false => exact call_list_long (J.ok.hd hc) ir sm (rangeSize_nat a b) few2 fin
end
end Sz
/-! texts: what is joined, and its repr -/
namespace Sz
open PySem PySem.Spec PyProof.Rows L2
def Signs (x : Str) : Prop := ∀ c ∈ x.cps.toList, c < 16 ^ 8
theorem signs_of (s : String) : Signs (Str.ofString s) := fun c hc => by
  rw [Str.ofString_eq_toList] at hc
  have hc : c ∈ s.toList.map Char.toNat := by simpa using hc
  obtain ⟨d, _, rfl⟩ := List.mem_map.mp hc
  have h := d.valid
  have h2 : d.toNat < 1114112 := by
    rcases h with h | h
    · exact Nat.lt_trans h (by decide)
    · exact h.2
  exact Nat.lt_of_lt_of_le h2 (by decide)
theorem joinL_mem {sep : List Nat} {c : Nat} : ∀ {l : List (List Nat)}, c ∈ TL.joinL sep l → c ∈ sep ∨ ∃ y ∈ l, c ∈ y
  | [], h => by simp [TL.joinL] at h
  | [p], h => .inr ⟨p, by simp, h⟩
  | p :: q :: r, h => by
    rcases List.mem_append.mp (show c ∈ p ++ (sep ++ TL.joinL sep (q :: r)) from h) with h | h
    · exact .inr ⟨p, by simp, h⟩
    · rcases List.mem_append.mp h with h | h
      · exact .inl h
      · rcases joinL_mem h with h | ⟨y, hy, hc⟩
        · exact .inl h
        · exact .inr ⟨y, List.mem_cons_of_mem _ hy, hc⟩
theorem joinL_len {sep : List Nat} : ∀ {l : List (List Nat)}, (TL.joinL sep l).length ≤ (l.map (·.length)).sum + l.length * sep.length
  | [] => by simp [TL.joinL]
  | [p] => by simp [TL.joinL]
  | p :: q :: r => by
    have ih := joinL_len (sep := sep) (l := q :: r)
    show (p ++ (sep ++ TL.joinL sep (q :: r))).length ≤ _
    rw [List.length_append, List.length_append]
    simp only [List.map_cons, List.sum_cons, List.length_cons, Nat.add_mul, Nat.one_mul] at ih ⊢
    omega
theorem join_signs {sep : Str} {ys : List Str} (h : Signs sep) (h2 : ∀ y ∈ ys, Signs y) : Signs (Txt.join sep ys) := fun c hc => by
  rw [TL.join_eq] at hc
  have hc : c ∈ TL.tl (Str.join sep ys) := hc
  rw [TL.tl_join] at hc
  rcases joinL_mem hc with z | ⟨y, hy, z⟩
  · exact h c z
  · obtain ⟨y', hy', rfl⟩ := List.mem_map.mp hy
    exact h2 y' hy' c z
theorem join_len {sep : Str} {ys : List Str} : (Txt.join sep ys).length ≤ (ys.map (·.length)).sum + ys.length * sep.length := by
  have e : ∀ x : Str, x.length = (TL.tl x).length := fun x => by
    show x.cps.size = x.cps.toList.length
    simp
  rw [TL.join_eq, e, TL.tl_join]
  have := joinL_len (sep := TL.tl sep) (l := ys.map TL.tl)
  rw [List.map_map, List.length_map] at this
  have e2 : ys.map ((·.length) ∘ TL.tl) = ys.map (·.length) := by
    apply List.map_congr_left
    intro y _
    exact (e y).symm
  rw [e2] at this
  rw [e sep]
  exact this
theorem repr_fits {x : Str} (h : Signs x) (hl : x.length ≤ 100000) : (reprText x).length ≤ sizeLine := by
  have := PySem.StrLaws.reprText_len x h
  rw [sizeLine_eq]
  omega
/-- repr of a text -/
theorem cr_reprS {X : Cx} : CallR X (.builtin "repr") (fun xs H Q => ∃ y : Str, xs = [.str y] ∧ (reprText y).length ≤ sizeLine ∧ Q (.str (reprText y)) H) := by
  intro pins s σ H xs us Q I r h
  obtain ⟨y, rfl, hz, q⟩ := h
  obtain ⟨u, rfl, ru⟩ := vals1 r
  obtain ⟨t, rfl⟩ := (show ∃ t, u = Value.str y t from ru)
  exact PySem.P.repr_of_str ⟨.str _, H, I.tok _, ⟨_, rfl⟩, q⟩ hz
end Sz
/-! len(x) by an own __len__ -/
namespace Sz
open PySem PySem.Spec PyProof.Rows L2
section
variable {X : Cx} {CX : CXT} {k : Nat} {C : Str} {ps : List Str} {sp : Sp} {E : XK}
theorem cr_lenO (G : PromM X.prog X.w X.K X.mg X.base CX k C "__len__" ps sp) (hr : Room (k + 1) X.A) (hx : Passes CX X E) :
    CallR X (.builtin "len") (fun xs H Q => ∃ p dx fs, xs = [.ref p] ∧ H p = some (.ins (He.ga X.K C) dx fs) ∧ sp [.ref p] H (fun v H' => ∃ n : Int, v = .int n ∧ 0 ≤ n ∧ n < 2 ^ 63 ∧ Q (.int n) H') E) := by
  intro pins s σ H xs us Q I r h
  obtain ⟨p, dx, fs, rfl, hp, h⟩ := h
  obtain ⟨u, rfl, ru⟩ := vals1 r
  obtain rfl : u = Value.ref p := ru
  obtain ⟨m1, O1, _⟩ := ins_get I.hok hp
  obtain ⟨od1, J1, _⟩ := O1.look
  obtain ⟨fd, F, b⟩ := G.ex
  have hl : ([Value.ref p] ++ ([] : List Value)).length = ps.length := by
    have := F.len _ _ _ _ h
    simpa using this
  refine Calls.call_function_entry kind_len plain_len entry_len (args_len1 _) ?_
  unfold Builtin.«len»
  refine wpAny_bind (m := oneArg "len" _) (wpAny_pure ?_)
  refine wpAny_bind (m := callSpecial? (.ref p) (Str.ofString "__len__")) ?_
  unfold callSpecial? specialOf
  refine wpAny_bind (wpAny_bind (J1.type.here ((PySem.W.looks_findIn I.kIn G.me.at_).here ?_)))
  refine wpAny_holding (wpAny_bind ((PySem.W.bind_fn I.kIn (.ref p) (beq_iff_eq.mp G.me.fn)).here (wpAny_bind ?_)))
  have vv : Vals [V.ref p] [Value.ref p] := .cons rfl .nil
  have bb : BindsTo s fd ⟨[Value.ref p], []⟩ (ps.zip [Value.ref p]) := b s [Value.ref p] I.kIn hl
  refine wpAny_call (codeAny_mono (F.run X.A.in1 X.stack s H ⟨[Value.ref p], []⟩ [Value.ref p] [V.ref p] _ E hr.in1 I.env0.in1 bb vv h) fun rr s' hq => ?_)
  cases rr with
  | error e => exact hx pins σ H s e s' I hq
  | ok fl =>
    cases fl with
    | ret v =>
      obtain ⟨v', H', I', rv, n, rfl, n0, n1, q⟩ := I.after hq
      obtain ⟨t, rfl⟩ := (show ∃ t, v = Value.int n t from rv)
      refine wpAny_pure ?_
      refine wpAny_bind (wpAny_holding (wpAny_pure ?_))
      refine wpAny_bind (wpAny_letGo ?_)
      show wpAny _ _ (if n < 0 then _ else _) _ _ _
      rw [if_neg (by omega)]
      show wpAny _ _ (if n ≥ 2 ^ 63 then _ else _) _ _ _
      rw [if_neg (by omega)]
      exact wpAny_bind (wpAny_mkInt (wpAny_pure ⟨_, rfl, .int n, H', I'.tok _, ⟨_, rfl⟩, q⟩))
    | next => exact False.elim hq
    | brk => exact False.elim hq
    | cont => exact False.elim hq
end
end Sz
/-! data that can be shown and compared: how deep, how long the text -/
namespace Sz
open PySem PySem.Spec PyProof.Rows L2
/-- can be shown: at most so deep, at most so long -/
structure Sho (d : PyData) (k m : Nat) : Prop where
  able : d.showable = true
  nod : d.hasDict = false
  deep : d.depth ≤ k
  long : d.shown.length ≤ m
theorem Sho.mono {d : PyData} {k m k' m' : Nat} (h : Sho d k m) (hk : k ≤ k') (hm : m ≤ m') : Sho d k' m' := ⟨h.able, h.nod, Nat.le_trans h.deep hk, Nat.le_trans h.long hm⟩
theorem sho_int {i : Int} (k : Nat) (hk : 0 < k) (hk2 : k ≤ 500) (h : i.natAbs < 10 ^ k) : Sho (.int i) 0 (k + 1) := by
  refine ⟨?_, rfl, Nat.le_refl _, ?_⟩
  · have h2 : i.natAbs < 2 ^ 1800 := Nat.lt_of_lt_of_le h (Nat.le_trans (Nat.pow_le_pow_right (by decide) hk2) (by decide))
    show decide (i.natAbs.log2 < 1920) = true
    exact decide_eq_true (Nat.lt_of_lt_of_le (PySem.Flt.log2_lt_of (by decide) h2) (by decide))
  · have h1 := int_text_length_le10 hk h
    have e : (Str.ofString (toString i)).length = (toString i : String).length := PySem.ofString_length _
    show (Str.ofString (toString i)).length ≤ k + 1
    omega
theorem sho_bool (b : Bool) : Sho (.bool b) 0 5 := by cases b <;> exact ⟨rfl, rfl, Nat.le_refl _, by decide⟩
theorem sho_none : Sho .none 0 4 := ⟨rfl, rfl, Nat.le_refl _, by decide⟩
theorem sho_all {k m : Nat} : ∀ ds : List PyData, (∀ d ∈ ds, Sho d k m) → PyData.showableAll ds = true ∧ PyData.hasDictAll ds = false ∧ PyData.depthAll ds ≤ k ∧ ((PyData.shownAll ds).map (·.length)).sum ≤ m * ds.length ∧ (PyData.shownAll ds).length = ds.length
  | [], _ => ⟨rfl, rfl, Nat.zero_le _, by simp [PyData.shownAll], rfl⟩
  | d :: ds, h => by
    obtain ⟨h1, h2, h3, h4, h5⟩ := sho_all ds fun y hy => h y (List.mem_cons_of_mem _ hy)
    obtain ⟨g1, g2, g3, g4⟩ := h d (List.mem_cons_self ..)
    refine ⟨?_, ?_, ?_, ?_, ?_⟩
    · show (d.showable && PyData.showableAll ds) = true
      rw [g1, h1]
      rfl
    · show (d.hasDict || PyData.hasDictAll ds) = false
      rw [g2, h2]
      rfl
    · show max d.depth (PyData.depthAll ds) ≤ k
      omega
    · show ((d.shown :: PyData.shownAll ds).map (·.length)).sum ≤ m * (ds.length + 1)
      rw [List.map_cons, List.sum_cons, Nat.mul_add, Nat.mul_one]
      omega
    · show (PyData.shownAll ds).length + 1 = ds.length + 1
      rw [h5]
theorem sho_tuple {k m : Nat} {ds : List PyData} (h : ∀ d ∈ ds, Sho d k m) : Sho (.tuple ds) (k + 1) ((m + 2) * ds.length + 4) := by
  obtain ⟨h1, h2, h3, h4, h5⟩ := sho_all ds h
  refine ⟨h1, h2, ?_, ?_⟩
  · show PyData.depthAll ds + 1 ≤ k + 1
    omega
  · show (tupleText (PyData.shownAll ds)).length ≤ _
    have h6 := tupleText_len_le (PyData.shownAll ds)
    rw [h5] at h6
    rw [Nat.add_mul]
    omega
theorem sho_list {k m : Nat} {ds : List PyData} (h : ∀ d ∈ ds, Sho d k m) : Sho (.list ds) (k + 1) ((m + 2) * ds.length + 4) := by
  obtain ⟨h1, h2, h3, h4, h5⟩ := sho_all ds h
  refine ⟨h1, h2, ?_, ?_⟩
  · show PyData.depthAll ds + 1 ≤ k + 1
    omega
  · show (listText (PyData.shownAll ds)).length ≤ _
    have h6 := listText_len_le (PyData.shownAll ds)
    rw [h5] at h6
    rw [Nat.add_mul]
    omega
/-! what can be laid and compared -/
structure Shp (d : PyData) (k : Nat) : Prop where
  lay : d.canLay0 = true
  deep : d.depth ≤ k
theorem Shp.mono {d : PyData} {k k' : Nat} (h : Shp d k) (hk : k ≤ k') : Shp d k' := ⟨h.lay, Nat.le_trans h.deep hk⟩
theorem Shp.shaped {d : PyData} {k : Nat} (h : Shp d k) (hk : k ≤ 30 := by decide) : SeqAt.shaped d = true := by
  have h2 := h.deep
  simp [SeqAt.shaped, h.lay]
  omega
theorem shp_int (i : Int) : Shp (.int i) 0 := ⟨rfl, Nat.le_refl _⟩
theorem shp_str {s : Str} (h : PyData.strOk s = true) : Shp (.str s) 0 := ⟨h, Nat.le_refl _⟩
theorem shp_bool (b : Bool) : Shp (.bool b) 0 := ⟨rfl, Nat.le_refl _⟩
theorem shp_none : Shp .none 0 := ⟨rfl, Nat.le_refl _⟩
theorem shp_all {k : Nat} : ∀ ds : List PyData, (∀ d ∈ ds, Shp d k) → PyData.canLayAll0 ds = true ∧ PyData.depthAll ds ≤ k
  | [], _ => ⟨rfl, Nat.zero_le _⟩
  | d :: ds, h => by
    obtain ⟨h1, h2⟩ := shp_all ds fun y hy => h y (List.mem_cons_of_mem _ hy)
    obtain ⟨g1, g2⟩ := h d (List.mem_cons_self ..)
    refine ⟨?_, ?_⟩
    · show (d.canLay0 && PyData.canLayAll0 ds) = true
      rw [g1, h1]
      rfl
    · show max d.depth (PyData.depthAll ds) ≤ k
      omega
theorem shp_tuple {k : Nat} {ds : List PyData} (h : ∀ d ∈ ds, Shp d k) : Shp (.tuple ds) (k + 1) := by
  obtain ⟨h1, h2⟩ := shp_all ds h
  refine ⟨h1, ?_⟩
  show PyData.depthAll ds + 1 ≤ k + 1
  omega
theorem shp_list {k : Nat} {ds : List PyData} (h : ∀ d ∈ ds, Shp d k) : Shp (.list ds) (k + 1) := by
  obtain ⟨h1, h2⟩ := shp_all ds h
  refine ⟨h1, ?_⟩
  show PyData.depthAll ds + 1 ≤ k + 1
  omega
theorem shp_ints_t (xs : List Int) : Shp (.tuple (xs.map PyData.int)) 1 := shp_tuple (k := 0) fun d hd => by
  obtain ⟨i, _, rfl⟩ := List.mem_map.mp hd
  exact shp_int i
theorem shp_ints_l (xs : List Int) : Shp (.list (xs.map PyData.int)) 1 := shp_list (k := 0) fun d hd => by
  obtain ⟨i, _, rfl⟩ := List.mem_map.mp hd
  exact shp_int i
end Sz
/-! str(x), f"{x}" by an own __str__; x == y, x != y by an own __eq__ -/
namespace Sz
open PySem PySem.Spec PyProof.Rows L2
/-- what the class must have -/
structure StrK (K : PySem.W.Frag) (C : Addr) : Prop where
  fmt : PySem.W.findIn K (.ref C) "__format__" = some (some (.builtin "object.__format__"))
  mro : PySem.W.mroIn K C (.type "object") = some true
  ne : PySem.W.findIn K (.ref C) "__ne__" = some (some (.builtin "object.__ne__"))
def strB (K : PySem.W.Frag) (C : Addr) : Bool := He.eqO (PySem.W.findIn K (.ref C) "__format__") (some (some (.builtin "object.__format__"))) && (decide (PySem.W.mroIn K C (.type "object") = some true) && He.eqO (PySem.W.findIn K (.ref C) "__ne__") (some (some (.builtin "object.__ne__"))))
theorem strB_ok {K : PySem.W.Frag} {C : Addr} (h : strB K C = true) : StrK K C := by
  obtain ⟨h1, h⟩ := He.ba h
  obtain ⟨h2, h3⟩ := He.ba h
  exact ⟨He.eqO_ok h1, of_decide_eq_true h2, He.eqO_ok h3⟩
section
variable {X : Cx} {CX : CXT} {k n : Nat} {C : Str} {ps : List Str} {sp : Sp} {E : XK}
/-- the own method of an instance is called somewhere below the running body -/
theorem run_own {m : Str} (G : PromM X.prog X.w X.K X.mg X.base CX k C m ps sp) (hx : Passes CX X E) {A : Around} (sb : L2.Sub X k A) {pins : List (Addr × Obj)} {s : Shared} {σ : L2.St} {H : Hp} {vs : List V} {us : List Value} {Q : VK}
    (I : Inv X pins σ H s) (r : Vals vs us) (h : sp vs H Q E) : wpAny (model X.prog X.w) A (call (.ref (He.ma X.K (He.ga X.K C) m)) us) (EP X pins σ Q) X.xe s := by
  obtain ⟨fd, F, b⟩ := G.ex
  have hl := F.len _ _ _ _ h
  have e0 : Env0 X.prog X.w X.K X.mg X.base A X.stack s H := by
    have e := I.env0
    exact ⟨by rw [sb.fr]; exact e.frames, e.mod, e.bs, e.bsz, e.funs, e.frf, e.hok, e.bare⟩
  have hl2 : us.length = ps.length := by rw [← hl]; exact r.length.symm
  refine wpAny_call (codeAny_mono (F.run A X.stack s H ⟨us, []⟩ us vs _ E sb.room e0 (by
    have := b s us I.kIn (by simpa using hl2)
    simpa using this) r h) fun rr s' hq => ?_)
  cases rr with
  | error e => exact hx pins σ H s e s' I hq
  | ok fl =>
    cases fl with
    | ret v =>
      obtain ⟨z, H', I', rz, q⟩ := I.after hq
      exact ⟨z, H', I', rz, q⟩
    | next => exact False.elim hq
    | brk => exact False.elim hq
    | cont => exact False.elim hq
theorem strBack_of {pins : List (Addr × Obj)} {σ : L2.St} {Q : VK} {v : Value} {s' : Shared} (h : EP X pins σ (fun v H => ∃ y : Str, v = .str y ∧ Q (.str y) H) v s') : PySem.W.StrBack (EP X pins σ Q) v s' := by
  obtain ⟨z, H', I', rz, y, rfl, q⟩ := h
  obtain ⟨t, rfl⟩ := rz
  exact ⟨.str y, H', I', ⟨t, rfl⟩, q⟩
/-- f"{x}" by an own __str__ -/
def tFmtO (C : Addr) (sp : Sp) (E : XK) (te : TE) : TE := fun σ H Q => te σ H fun x H1 => ∃ p dx fs, x = .ref p ∧ H1 p = some (.ins C dx fs) ∧ sp [.ref p] H1 (fun v H2 => ∃ y : Str, v = .str y ∧ Q (.str y) H2) E
theorem pe_fmtO {e : Expr} {te : TE} {pos : Pos} (a : StrK X.K (He.ga X.K C)) (G : PromM X.prog X.w X.K X.mg X.base CX k C "__str__" ps sp) (hr : Room (k + 1) X.A) (hx : Passes CX X E) (he : PE X e te) :
    PE X (.FormattedValue e (-1) none pos) (tFmtO (He.ga X.K C) sp E te) := by
  refine ⟨fun pins s σ H Q I h => ?_⟩
  refine wpAny_FormattedValue_plain (thn (he.run pins s σ H _ I h) fun v s1 hv => ?_)
  obtain ⟨x, H1, I1, r1, p, dx, fs, rfl, hp, q⟩ := hv
  obtain rfl : v = Value.ref p := r1
  obtain ⟨m1, O1, _⟩ := ins_get I1.hok hp
  obtain ⟨od1, J1, _⟩ := O1.look
  refine PySem.W.kfo_fieldS hr.in1.units0 I1.kIn J1 a.fmt a.mro G.me.at_ G.me.fn ?_
  exact wpAny_mono (run_own G hx (A := X.A.in1) ⟨hr.in1, rfl⟩ (vs := [.ref p]) (us := [.ref p]) (I1.tok _) (.cons rfl .nil) q) (fun v s' z => strBack_of z) fun _ _ z => z
/-- str(x) by an own __str__ -/
theorem cr_strO (G : PromM X.prog X.w X.K X.mg X.base CX k C "__str__" ps sp) (hr : Room (k + 2) X.A) (hx : Passes CX X E) :
    CallR X (.type "str") (fun xs H Q => ∃ p dx fs, xs = [.ref p] ∧ H p = some (.ins (He.ga X.K C) dx fs) ∧ sp [.ref p] H (fun v H2 => ∃ y : Str, v = .str y ∧ Q (.str y) H2) E) := by
  intro pins s σ H xs us Q I r h
  obtain ⟨p, dx, fs, rfl, hp, h⟩ := h
  obtain ⟨u, rfl, ru⟩ := vals1 r
  obtain rfl : u = Value.ref p := ru
  obtain ⟨m1, O1, _⟩ := ins_get I.hok hp
  obtain ⟨od1, J1, _⟩ := O1.look
  refine callType_codes (T := "str") (Bi := Builtin.«object.__init__») (Q₁ := fun r s₁ => ∃ y u, r = .str y u ∧ EP X pins σ Q r s₁) PySem.F.called_str (PySem.F.typeCall_str_1 _) PySem.F.entry_object_init ?_ ?_
  · refine codeAny_of_tree ?_
    show wpAny _ X.A.in1.in1 (do checkBuiltinCall "str.__new__" ⟨[.type "str", .ref p], []⟩; again (.builtin "str.__new__" ⟨[.type "str", .ref p], []⟩)) _ _ s
    refine wpAny_bind (wpAny_of_eq (PySem.F.newCall_str_1 _) (wpAny_pure ⟨plainId_quiet (by decide +kernel) _, codeAny_builtin PySem.F.entry_str_new ?_⟩))
    rw [Around.under_plainId (by decide +kernel) _]
    rw [str_new_tree]
    refine wpAny_bind (wpAny_pure ?_)
    refine wpAny_bind (wpAny_of_eq isSubtype_str_str ?_)
    have key : wpAny (model X.prog X.w) X.A.in1.in1 (PySem.Builtin.Str.strOf (.ref p)) (fun r s₁ => ∃ y u, r = .str y u ∧ EP X pins σ Q r s₁) X.xe s := by
      unfold PySem.Builtin.Str.strOf
      rw [show PySem.Builtin.Str.isExactStr (.ref p) = false from rfl]
      refine wpAny_bind (m := cRoomFor _ _) (wpAny_cRoomFor hr.in1.in1.units0 ?_)
      refine wpAny_bind (m := callSpecial? (.ref p) (Str.ofString "__str__")) (PySem.W.special_fn I.kIn J1 G.me.at_ (beq_iff_eq.mp G.me.fn) (wpAny_mono (run_own G hx (A := X.A.in1.in1) ⟨hr.in1.in1, rfl⟩ (vs := [.ref p]) (us := [.ref p]) I (.cons rfl .nil) h) (fun v s' z => ?_) fun _ _ y => y))
      obtain ⟨z, H', I', rz, y, rfl, q⟩ := z
      obtain ⟨t, rfl⟩ := rz
      exact wpAny_pure ⟨_, _, rfl, .str y, H', I', ⟨t, rfl⟩, q⟩
    exact wpAny_bind (wpAny_mono key (fun r s₁ hr => wpAny_pure hr) fun _ _ y => y)
  · rintro obj s₁ ⟨y, u, rfl, hq⟩
    exact ⟨typeIs_str _ _ _, PySem.F.args_object_init_2 _ _, object_init_meets PySem.F.called_str.init.lookup PySem.F.called_str.made (by decide) X.prog X.w X.A.in1 _ s₁ ⟨typeIs_str _ _ _, rfl, hq⟩⟩
/-- x == y by an own __eq__ -/
theorem op_eqO (G : PromM X.prog X.w X.K X.mg X.base CX k C "__eq__" ps sp) (hr : Room k X.A) (hx : Passes CX X E) :
    OpR X (compareOp .Eq) (fun x y H Q => ∃ p q dx fs dy gs, x = .ref p ∧ y = .ref q ∧ H p = some (.ins (He.ga X.K C) dx fs) ∧ H q = some (.ins (He.ga X.K C) dy gs) ∧ sp [.ref p, .ref q] H (fun v H2 => ∃ b : Bool, v = .bl b ∧ Q (.bl b) H2) E) := by
  intro pins s σ H x y v u Q I rx ry h
  obtain ⟨p, q, dx, fs, dy, gs, rfl, rfl, hp, hq, h⟩ := h
  obtain rfl : v = Value.ref p := rx
  obtain rfl : u = Value.ref q := ry
  obtain ⟨m1, O1, _⟩ := ins_get I.hok hp
  obtain ⟨od1, J1, _⟩ := O1.look
  obtain ⟨m2, O2, _⟩ := ins_get I.hok hq
  obtain ⟨od2, J2, _⟩ := O2.look
  obtain ⟨m, hF⟩ := I.fr
  show wpAny (model X.prog X.w) X.A (richCompare .Eq (.ref p) (.ref q)) (EP X pins σ Q) X.xe s
  refine PySem.W.cmp_K (op := .Eq) (tb := .ref (He.ga X.K C)) hr.units0 hF I.ok.mod.kin J1 J2.type (by simp [PySem.W.notFirst]) G.me.at_ G.me.fn ?_
  refine wpAny_mono (run_own G hx (A := X.A) ⟨hr, rfl⟩ (vs := [.ref p, .ref q]) (us := [.ref p, .ref q]) I (.cons rfl (.cons rfl .nil)) h) (fun v s' z => ?_) fun _ _ y => y
  obtain ⟨z, H', I', rz, b, rfl, q⟩ := z
  cases rz
  exact ⟨.bl b, H', I', rfl, q⟩
/-- x != y by an own __eq__ -/
theorem op_neO (a : StrK X.K (He.ga X.K C)) (G : PromM X.prog X.w X.K X.mg X.base CX k C "__eq__" ps sp) (hr : Room (k + 1) X.A) (hx : Passes CX X E) :
    OpR X (compareOp .NotEq) (fun x y H Q => ∃ p q dx fs dy gs, x = .ref p ∧ y = .ref q ∧ H p = some (.ins (He.ga X.K C) dx fs) ∧ H q = some (.ins (He.ga X.K C) dy gs) ∧ sp [.ref p, .ref q] H (fun v H2 => ∃ b : Bool, v = .bl b ∧ Q (.bl !b) H2) E) := by
  intro pins s σ H x y v u Q I rx ry h
  obtain ⟨p, q, dx, fs, dy, gs, rfl, rfl, hp, hq, h⟩ := h
  obtain rfl : v = Value.ref p := rx
  obtain rfl : u = Value.ref q := ry
  obtain ⟨m1, O1, _⟩ := ins_get I.hok hp
  obtain ⟨od1, J1, _⟩ := O1.look
  obtain ⟨m2, O2, _⟩ := ins_get I.hok hq
  obtain ⟨od2, J2, _⟩ := O2.look
  show wpAny (model X.prog X.w) X.A (richCompare .NotEq (.ref p) (.ref q)) (EP X pins σ Q) X.xe s
  have one : wpAny (model X.prog X.w) X.A (tryCompare (.ref p) "__ne__" (.ref q)) (fun r s' => ∃ v, r = some v ∧ EP X pins σ Q v s') X.xe s := by
    unfold tryCompare
    refine wpAny_bind ?_
    simp only [callSpecialIfBound?, bindSpecialIfBound?]
    refine wpAny_holding (wpAny_bind (wpAny_bind (wpAny_bind (J1.type.here ((PySem.W.looks_findIn I.kIn a.ne).here ?_)))))
    refine wpAny_bind (wpAny_askSetting (wpAny_ite ?_))
    have run : wpAny (model X.prog X.w) X.A (call (.builtin "object.__ne__") [.ref p, .ref q]) (fun r s' => ∃ b : Bool, r = .bool b ∧ EP X pins σ Q (.bool b) s') X.xe s := by
      refine wpAny_call (codeAny_call_builtin PySem.F.slot_object_ne.plain PySem.F.entry_object_ne (PySem.W.check_slot (i := "object.__ne__") (owner := "object") (n := "__ne__") (by decide +kernel) (by decide +kernel) (J1.type.andThen (PySem.W.looks_mroIn I.kIn a.mro)) (PySem.F.args_object_ne_2 _ _) ?_))
      unfold Builtin.«object.__ne__»
      refine wpAny_bind (m := slotArgs "__ne__" 1 _) (wpAny_pure ?_)
      refine wpAny_bind (m := cRoomFor _ _) (wpAny_cRoomFor hr.in1.units0 ?_)
      refine wpAny_bind (m := callSpecialIfBound? (.ref p) (Str.ofString "__eq__") _) (PySem.W.ifBound_K I.kIn J1 G.me.at_ G.me.fn (wpAny_mono (run_own G hx (A := X.A.in1) ⟨hr.in1, rfl⟩ (vs := [.ref p, .ref q]) (us := [.ref p, .ref q]) I (.cons rfl (.cons rfl .nil)) h) (fun r s' z => ?_) fun _ _ y => y))
      obtain ⟨z, H', I', rz, b, rfl, q⟩ := z
      cases rz
      exact wpAny_bind (wpAny_truthy_bool (wpAny_pure ⟨!b, rfl, .bl !b, H', I', rfl, q⟩))
    have fin : wpAny (model X.prog X.w) X.A (call (.builtin "object.__ne__") ([.ref p] ++ [.ref q]) >>= fun v => pure (some v)) (fun r s2 => ∃ b : Bool, r = some (.bool b) ∧ EP X pins σ Q (.bool b) s2) X.xe s :=
      wpAny_bind (wpAny_mono run (fun v s' h' => wpAny_pure (by obtain ⟨b, rfl, h'⟩ := h'; exact ⟨b, rfl, h'⟩)) fun _ _ h' => h')
    have fin2 := wpAny_mono (Q' := fun r s2 => wpAny (model X.prog X.w) X.A (match r with
      | some .notImplemented => pure none
      | none => pure none
      | some v => pure (some v) : Sem (Option Value)) (fun r s' => ∃ v, r = some v ∧ EP X pins σ Q v s') X.xe s2) fin (fun r s2 z => by
        obtain ⟨b, e, z⟩ := z
        subst e
        exact wpAny_pure ⟨_, rfl, z⟩) fun _ _ z => z
    split
    · exact wpAny_bind (wpAny_of_eq (PySem.F.slot_object_ne.bind _) (wpAny_pure (by exact fin2)))
    · exact wpAny_tryCatch (wpAny_bind (wpAny_of_eq (PySem.F.slot_object_ne.bind _) (wpAny_pure (by exact fin2))))
  unfold richCompare
  simp only [oneThing_ref]
  refine wpAny_holding (wpAny_bind (wpAny_cRoomFor hr.units0 ?_))
  rw [cmpInfo_NotEq]
  dsimp only
  refine wpAny_bind (J1.type.here (wpAny_bind (J2.type.here ?_)))
  rw [show (Value.ref (He.ga X.K C) != Value.ref (He.ga X.K C)) = false from by simp]
  simp only [Bool.false_eq_true, if_false]
  refine wpAny_bind (wpAny_pure ?_)
  simp only [Bool.false_eq_true, if_false]
  refine wpAny_bind (wpAny_mono one (fun r s' z => ?_) fun _ _ e => e)
  obtain ⟨v, rfl, hq⟩ := z
  exact wpAny_pure hq
end
end Sz
/-! == by an own __eq__ that is promised to say True -/
namespace Sz
open PySem PySem.Spec PyProof.Rows L2
section
variable {X : Cx} {CX : CXT} {k : Nat} {C : Str} {ps : List Str} {R : Addr → Addr → Hp → Prop} {E : XK}
theorem rcG_insP (G : PromM X.prog X.w X.K X.mg X.base CX k C "__eq__" ps (spEq R)) (hx : Passes CX X E) : RcG X k (DIns (He.ga X.K C) R) := by
  obtain ⟨fd, F, b⟩ := G.ex
  exact rcG_ins F G.me.at_ G.me.fn b hx
theorem eqG_insP (G : PromM X.prog X.w X.K X.mg X.base CX k C "__eq__" ps (spEq R)) (hx : Passes CX X E) : EqG X k (DIns (He.ga X.K C) R) := by
  obtain ⟨fd, F, b⟩ := G.ex
  exact eqG_ins F G.me.at_ G.me.fn b hx
end
end Sz
/-! errors: defs that raise, a try with a tuple of classes, a def that looks at the error that is handled -/
namespace Sz
open PySem PySem.Spec PyProof.Rows L2
section
variable {P : Program} {w : World} {K : PySem.W.Frag} {mg : Str → Option Value} {base : Heap}
/-- a def that may raise -/
theorem Prom.ofX {x : Str} {st : Stmt} {ps N : List Str} {sp : Sp} {k : Nat} (D : DefAt K mg x st) (S : FnScope N ps (defScope st)) (len : ∀ vs H Q E, sp vs H Q E → vs.length = ps.length)
    (hb : ∀ (kV doc pm : Value) (an : Option Addr) (cdv ct : Value) (us : List Value), us.length = ps.length → bindArgs (PySem.W.fnOf x x (defArgs st) (defBody st) (defScope st) .none kV doc pm an cdv ct) ⟨us, []⟩ = pure (ps.zip us))
    (hbody : ∀ (f : Addr) (cdv : Value) (A : Around) (outer : List Env) (s : Shared) (H : Hp) (vs : List V) (Q : VK) (E : XK), Room k (A.deeper (envOfC x (defScope st) s.heap.objs.size f cdv)) → sp vs H Q E →
      ∃ t, PSs (cxOf (L2.CX P w) P w K mg base N x (defScope st) f cdv A outer s H E) (defBody st) t ∧ t { nx := fun _ H' => Q .non H', rt := Q } (start N vs) H) :
    Prom P w K mg base (L2.CX P w) (k + 1) x st ps sp := by
  obtain ⟨f, fd, F, hm⟩ := D
  exact ⟨f, fd, F.ok S len (fun cdv A outer s H vs Q E hr hs => hbody f cdv A outer s H vs Q E hr hs), hm, F, F.bindsN hb⟩
end
/-! ### a def that is handed the error, called in the except suite: p, the error's address and object -/
structure FnP (P : Program) (w : World) (K : PySem.W.Frag) (mg : Str → Option Value) (base : Heap) (k : Nat) (f : Addr) (fd : FuncData) (ps : List Str) (sp : Addr × Obj → Sp) : Prop where
  len : ∀ p vs H Q E, sp p vs H Q E → vs.length = ps.length
  run : ∀ (A : Around) (outer : List Env) (s : Shared) (H : Hp) (args : Args) (us : List Value) (vs : List V) (Q : VK) (E : XK) (p : Addr × Obj), L2H.RoomH k A → A.guards = some [] → L2H.PinOk outer H s p → Env0 P w K mg base A outer s H →
    BindsTo s fd args (ps.zip us) → Vals vs us → sp p vs H Q E → codeAny (model P w) A (.call (.ref f) args) (CR CX0 outer P w H s Q E) s
theorem fnP_of {P : Program} {w : World} {K : PySem.W.Frag} {mg : Str → Option Value} {base : Heap} {k : Nat} {f : Addr} {x q : Str} {pr : Arguments} {bd : List Stmt} {sc : Scope} {dvs : List V} {kws : List (Str × V)} {fd : FuncData} {N ps : List Str} {sp : Addr × Obj → Sp}
    (F : FunD K x q pr bd sc dvs kws f fd) (S : FnScope N ps sc) (len : ∀ p vs H Q E, sp p vs H Q E → vs.length = ps.length)
    (hbody : ∀ (cdv : Value) (A : Around) (outer : List Env) (s : Shared) (H : Hp) (vs : List V) (Q : VK) (E : XK) (p : Addr × Obj), L2H.RoomH k (A.deeper (envOfC q sc s.heap.objs.size f cdv)) → (A.deeper (envOfC q sc s.heap.objs.size f cdv)).guards = some [] → sp p vs H Q E →
      ∃ t, PSs (L2H.cxH CX0 P w K mg base N q sc f cdv A outer s H E p).nox bd t ∧ t { nx := fun _ H' => Q .non H', rt := Q } (start N vs) H) : FnP P w K mg base (k + 1) f fd ps sp := by
  obtain ⟨c1, c2, c3, c4, c5, c6, c7, cdv, c9, c10, rfl, look, code, _, _⟩ := F.ex
  refine ⟨len, fun A outer s H args us vs Q E p room gd pin e0 hbind rel want => ?_⟩
  have old : ∀ b o, base.get? b = some o → s.heap.get? b = some o := fun b o e => (e0.bs b o e).1
  have inK : K.In s.heap := e0.mod.kin.keeps old
  have kinds : ∀ y ∈ ps.zip us, sc.names.lookup y.1 = some .local ∨ (sc.names.lookup y.1 = some .cell ∧ ((cellsFrom (s.heap.objs.size + 1) sc.names []).lookup y.1).isSome = true) := by
    rintro ⟨n, v⟩ hy
    have hm : n ∈ ps := (List.of_mem_zip hy).1
    cases S.par n hm with
    | inl z => exact Or.inl z
    | inr z => exact Or.inr ⟨z, PySem.W.cellsFrom_some _ _ _ (.inl z)⟩
  obtain ⟨t, dt, rt⟩ := hbody cdv A outer s H vs Q E p (room.deeper _) gd want
  have dt := dt.nox
  refine codeAny_call_function room.depth (inK _ _ look) rfl S.co S.gen rfl (PySem.W.codeRec_of inK code) ?_
  refine hbind _ _ _ _ (wpAny_newFunctionEnv_cells S.kind kinds ?_)
  rintro _ rfl s1 ic
  refine ⟨(e0.mod.nolimit.keeps old).keeps ic.toInCall.keep, codeAny_func ?_⟩
  refine wpAny_mono (dt.run [] s1 (start N vs) H _ (L2H.inv_startH S pin e0 (len _ _ _ _ _ want) rel ic) rt) ?_ (fun _ _ z => z)
  intro fl s' hs
  cases fl with
  | ret u => exact let ⟨v, _, H', J, rv, qv⟩ := hs; ⟨v, H', J.os, J.bare, J.base, J.hok, rv, qv⟩
  | next => exact let ⟨_, H', J, qv⟩ := hs; ⟨.non, H', J.os, J.bare, J.base, J.hok, rfl, qv⟩
  | brk => exact let ⟨_, _, _, qv⟩ := hs; False.elim qv
  | cont => exact let ⟨_, _, _, qv⟩ := hs; False.elim qv
/-- the def named x keeps the promise sp of the error at p -/
structure PromP (P : Program) (w : World) (K : PySem.W.Frag) (mg : Str → Option Value) (base : Heap) (k : Nat) (x : Str) (st : Stmt) (ps : List Str) (sp : Addr × Obj → Sp) : Prop where
  ex : ∃ f fd, FnP P w K mg base k f fd ps sp ∧ mg x = some (.ref f) ∧ FunD K x x (defArgs st) (defBody st) (defScope st) [] [] f fd ∧ Binds K fd ps []
theorem PromP.of {P : Program} {w : World} {K : PySem.W.Frag} {mg : Str → Option Value} {base : Heap} {x : Str} {st : Stmt} {ps N : List Str} {sp : Addr × Obj → Sp} {k : Nat} (D : DefAt K mg x st) (S : FnScope N ps (defScope st)) (len : ∀ p vs H Q E, sp p vs H Q E → vs.length = ps.length)
    (hb : ∀ (kV doc pm : Value) (an : Option Addr) (cdv ct : Value) (us : List Value), us.length = ps.length → bindArgs (PySem.W.fnOf x x (defArgs st) (defBody st) (defScope st) .none kV doc pm an cdv ct) ⟨us, []⟩ = pure (ps.zip us))
    (hbody : ∀ (f : Addr) (cdv : Value) (A : Around) (outer : List Env) (s : Shared) (H : Hp) (vs : List V) (Q : VK) (E : XK) (p : Addr × Obj), L2H.RoomH k (A.deeper (envOfC x (defScope st) s.heap.objs.size f cdv)) → (A.deeper (envOfC x (defScope st) s.heap.objs.size f cdv)).guards = some [] → sp p vs H Q E →
      ∃ t, PSs (L2H.cxH CX0 P w K mg base N x (defScope st) f cdv A outer s H E p).nox (defBody st) t ∧ t { nx := fun _ H' => Q .non H', rt := Q } (start N vs) H) :
    PromP P w K mg base (k + 1) x st ps sp := by
  obtain ⟨f, fd, F, hm⟩ := D
  exact ⟨f, fd, fnP_of F S len (fun cdv A outer s H vs Q E p hr hg hs => hbody f cdv A outer s H vs Q E p hr hg hs), hm, F, F.bindsN hb⟩
section
variable {X : Cx} {k : Nat} {x : Str} {st : Stmt} {ps : List Str} {sp : Addr × Obj → Sp} {e : Expr} {es : List Expr} {t : TA} {p pos : Pos} {a : Addr} {oe : Obj} {pn : List (Addr × Obj)}
/-- f(..) in the suite that handles the error at a -/
theorem pe_callE (G : PromP X.prog X.w X.K X.mg X.base k x st ps sp) (gd : X.A.guards = some []) (hr : L2H.RoomH k X.A) (hg : Gl X x) (hs : X.stack = X.env :: X.outer) (ha : PA (X.suite a ((a, oe) :: pn)) (e :: es) t)
    (hdb : (x == ("__debug__" : Str)) = false := by decide) (he : starEach (e :: es) X.env = (false, eval e X.env) :: starEach es X.env := by rfl) (hpl : (backTo pos (starEach es X.env)).any (·.1) = false := by rfl) :
    PE (X.suite a ((a, oe) :: pn)) (.Call (.Name x p) (e :: es) [] pos) (tCall (sp (a, oe)) [] E0 t) := by
  obtain ⟨f, fd, F, hm, D, hb⟩ := G.ex
  constructor
  intro pins s σ H Q I h
  refine wpAny_Call_Name_kw (ld_glob I hg hm (PySem.W.callWith_K (h₀ := X.base) I.ok.mod.kin D.kp (thn (ha.run pos pins s σ H _ I h) ?_) he hpl) hdb)
  rintro us s1 ⟨vs, H1, I1, rel, want⟩
  have pin : L2H.PinOk X.stack H1 s1 (a, oe) := by
    obtain ⟨p1, p2, p3, p4, p5⟩ := I1.pin (a, oe) (List.mem_append_left _ (List.mem_cons_self ..))
    refine ⟨p1, p2, fun z => ?_, p5⟩
    rw [hs] at z
    obtain ⟨en, hen, q⟩ := List.mem_filterMap.mp z
    rcases List.mem_cons.mp hen with z | z
    · subst z
      have nf := I1.ok.stk
      rcases nf with nf | ⟨_, nf⟩
      · have nf : X.stack = X.outer := nf
        rw [hs] at nf
        exact absurd (congrArg List.length nf) (by simp)
      · have nf : X.env.frame = some X.env.locals := nf
        rw [nf] at q
        exact p3 (Option.some.inj q).symm
    · exact p4 (List.mem_filterMap.mpr ⟨en, z, q⟩)
  refine ⟨I1.kIn, wpAny_call (codeAny_mono (F.run (X.A.mark (some (.ref a))) X.stack s1 H1 ⟨us, []⟩ (us ++ []) (vs ++ []) Q E0 (a, oe) ⟨hr.dp, hr.un⟩ gd pin I1.env0 (hb s1 us I1.kIn ?_) (rel.append .nil) want) ?_)⟩
  · rw [← (rel.append Paired.nil).length]
    exact F.len _ _ _ _ _ want
  · intro r s' hq
    cases r with
    | error z => exact False.elim hq
    | ok fl =>
      cases fl with
      | ret u => exact I1.after hq
      | next => exact False.elim hq
      | brk => exact False.elim hq
      | cont => exact False.elim hq
end
/-! ### except clauses with names, by a class or by three of them -/
/-- what the test of a clause does: nothing but new objects, and the word whether the error is of one of these classes -/
def TestOk (X : Cx) (t : Expr) (cs : List Value) : Prop := ∀ (a : Addr) (oe : Obj) (pn pins : List (Addr × Obj)) (s : Shared) (σ : L2.St) (H : Hp) (b : Bool) (Q : Bool → Shared → Prop) (E : Value → Shared → Prop),
  Inv (X.suite a ((a, oe) :: pn)) pins σ H s → PySem.W.exmAny X.K oe.cls cs = some b → (∀ h', (∀ c o, s.heap.get? c = some o → h'.get? c = some o) → Q b { s with heap := h' }) →
  wpAny (model X.prog X.w) (X.A.mark (some (.ref a))) (eval t X.env) (fun c s1 => wpAny (model X.prog X.w) (X.A.mark (some (.ref a))) (excMatches (.ref a) c) Q E s1) E s
theorem exmAny_one {K : PySem.W.Frag} {cls c : Value} {b : Bool} (h : PySem.W.exmAny K cls [c] = some b) : PySem.W.exmOne K cls c = some b := by
  obtain ⟨b1, d1, e1, e2, e3⟩ := PySem.W.exmAny_cons h
  have e2 : some false = some d1 := e2
  cases e2
  rw [e1, e3, Bool.or_false]
section
variable {X : Cx}
theorem looks_cls {a : Addr} {oe : Obj} {pn pins : List (Addr × Obj)} {s : Shared} {σ : L2.St} {H : Hp} (I : Inv (X.suite a ((a, oe) :: pn)) pins σ H s) : PySem.W.Looks (model X.prog X.w) s.heap (typeOf (.ref a)) oe.cls := fun A Q E s' k q =>
  wpAny_typeOf_ref (k _ _ (I.pin (a, oe) (List.mem_append_left _ (List.mem_cons_self ..))).1) q
theorem test_name {x : Str} {c : Value} {np : Pos} (hg : Gl X x) (hm : X.mg x = some c) (hd : (x == ("__debug__" : Str)) = false := by decide) : TestOk X (.Name x np) [c] := fun a oe pn pins s σ H b Q E I hx k => by
  refine ld_glob I hg hm ?_ hd
  exact (PySem.W.exm_one (M := model X.prog X.w) I.kIn (looks_cls I) (exmAny_one hx)).here (k s.heap fun _ _ z => z)
theorem test_tup {x y z : Str} {c1 c2 c3 : Value} {p1 p2 p3 tp : Pos} {e1} (g1 : Gl X x) (g2 : Gl X y) (g3 : Gl X z) (m1 : X.mg x = some c1) (m2 : X.mg y = some c2) (m3 : X.mg z = some c3)
    (d1 : (x == ("__debug__" : Str)) = false := by decide) (d2 : (y == ("__debug__" : Str)) = false := by decide) (d3 : (z == ("__debug__" : Str)) = false := by decide) :
    TestOk X (.Tuple [.Name x p1, .Name y p2, .Name z p3] e1 tp) [c1, c2, c3] := fun a oe pn pins s σ H b Q E I hx k => by
  refine wpAny_Tuple_spliced ?_
  show wpAny _ _ (spliced [(false, eval (.Name x p1) X.env), (false, eval (.Name y p2) X.env), (false, eval (.Name z p3) X.env)]) _ _ _
  refine Calls.spliced_cons (ld_glob I g1 m1 (Calls.spliced_cons (ld_glob I g2 m2 (Calls.spliced_cons (ld_glob I g3 m3 (Calls.spliced_nil ⟨(by show 3 ≤ sizeLine; decide), ?_⟩) d3)) d2)) d1)
  have kk : ∀ c o, s.heap.get? c = some o → (s.heap.push { cls := .type "tuple", data := .seq [c1, c2, c3].toArray }).get? c = some o := fun c o e => Heap.get?_push_of_some _ e
  exact (PySem.W.exm_tup3 (M := model X.prog X.w) (I.kIn.keeps kk) ((looks_cls I).keeps kk) (Heap.get?_push_size _ rfl) hx).here (k _ kk)
end
theorem fly_kept {B h h' : Heap} {l : List Env} {e : Addr} {Z : Obj → Prop} (k : ∀ b o, h.get? b = some o → h'.get? b = some o) (x : HandSPX.FlyingZ B l e Z h) : HandSPX.FlyingZ B l e Z h' := by
  obtain ⟨st, no, fr, oe, vs, T, oT, ts, a1, a2, a3, a4, a5, a6, a7, a8⟩ := x
  exact ⟨fun b o e => k b o (st b o e), no, Heap.FunFrames.of_keeps (fun b o e _ => ⟨o, k b o e, rfl⟩) fr, oe, vs, T, oT, ts, k _ _ a1, a2, a3, a4, a5, a6, k _ _ a7, a8⟩
/-- a clause: the classes, the slot of its name, the reading of its suite -/
structure Clause where
  cs : List Value
  i : Nat
  ts : Addr → Obj → Value → Option Addr → TS
/-- behind the suite the name is gone -/
def Ends.gone (D : Ends) (i : Nat) : Ends := { nx := fun σ H => D.nx (σ.set i none) H, rt := D.rt, bk := fun σ H => D.bk (σ.set i none) H, ct := fun σ H => D.ct (σ.set i none) H }
def wCl (K : PySem.W.Frag) (Wout : WX) (D : Ends) : List Clause → WX
  | [] => Wout
  | c :: r => fun cls d σ H => ∃ b, PySem.W.exmAny K cls c.cs = some b ∧ (b = true → ∀ a oe, Zc cls d oe → (∃ vs, oe.data = .fields vs) → H a = none → c.ts a oe cls d (Ends.gone D c.i) (σ.set c.i (some (.ref a))) H) ∧ (b = false → wCl K Wout D r cls d σ H)
inductive ClOk (X : Cx) : List ExceptHandler → List Clause → Prop
  | nil : ClOk X [] []
  | cons {t : Expr} {n : Str} {i : Nat} {b0 : Stmt} {suite : List Stmt} {pos : Pos} {cs : List Value} {ts : Addr → Obj → Value → Option Addr → TS} {hds : List ExceptHandler} {l : List Clause} (ht : TestOk X t cs) (hi : X.N[i]? = some n) (hl : X.env.kindOf n = some .local)
      (hs : ∀ (a : Addr) (oe : Obj) (cls : Value) (d : Option Addr) (pn : List (Addr × Obj)), Zc cls d oe → (∃ vs, oe.data = .fields vs) → PSs (X.suite a ((a, oe) :: pn)) (b0 :: suite) (ts a oe cls d)) (r : ClOk X hds l) : ClOk X (.ExceptHandler (some t) (some n) (b0 :: suite) pos :: hds) (⟨cs, i, ts⟩ :: l)
section
variable {X : Cx} {body : List Stmt} {h0 : ExceptHandler} {hds : List ExceptHandler} {l : List Clause} {pos : Pos} {tb : WX → TS} {Wout : WX}
/-- the error lies on the ground and is looked at by the clauses -/
theorem clauses_run {pins : List (Addr × Obj)} {σ : L2.St} {H : Hp} {D : Ends} {sI s' : Shared} {B : Heap} {a : Addr} {cls : Value} {d : Option Addr} (hs : X.stack = X.env :: X.outer) (hf : X.env.frame = some X.env.locals) (hN : X.N.Nodup) (tk : Takes X Wout) (J : Inv X pins σ H sI)
    (nb : ∀ b o, sI.heap.get? b = some o → b ∉ frs X.stack → B.get? b = some o) (na : H a = none) (os : s'.os = sI.os) (ag : AllBare s'.gens) {hds : List ExceptHandler} {l : List Clause} (hk : ClOk X hds l) :
    ∀ (h : Heap), HandSPX.FlyingZ B (X.env :: X.outer) a (Zc cls d) h → sI.heap.UpToSlots h → wCl X.K Wout D l cls d σ H → wpAny (model X.prog X.w) X.A (handleBy (.ref a) X.env hds) (SP X pins D) X.xe { s' with heap := h } := by
  have ok := J.ok
  have place : ∀ {h : Heap}, HandSPX.FlyingZ B (X.env :: X.outer) a (Zc cls d) h → a ≠ X.env.locals ∧ a ∉ X.fs := fun {h} fl => by
    obtain ⟨oe, vs, he, hz, hd⟩ := fl.there
    have nfr : a ∉ frs (X.env :: X.outer) := fun hm => by
      obtain ⟨_, o', e', hnf⟩ := fl.2.2.1.mem hm
      rw [he] at e'
      cases e'
      exact hnf _ hd
    exact ⟨fun z => nfr (List.mem_filterMap.mpr ⟨X.env, List.mem_cons_self, by rw [hf, z]⟩), fun hm => by
      obtain ⟨e, he, q⟩ := List.mem_filterMap.mp hm
      exact nfr (List.mem_filterMap.mpr ⟨e, List.mem_cons_of_mem _ he, q⟩)⟩
  induction hk with
  | nil =>
    intro h fl up want
    refine wpAny_handleBy_nil ?_
    obtain ⟨k1, k2, k3, oe, vs, T, oT, us, he, hz, hd, h1, hr⟩ := id fl
    unfold PySem.passOn
    refine wpAny_bind (wpAny_field he hd h1 ?_)
    rw [if_neg (show ¬ ((Value.ref T == Value.none) = true) from by simp)]
    have fin : wpAny (model X.prog X.w) X.A (setFlight (.ref a) X.env.frame) (fun _ s4 => wpAny (model X.prog X.w) X.A (throw (.ref a) : Sem Flow) (SP X pins D) X.xe s4) X.xe { s' with heap := h } := by
      rw [hf]
      exact HandSPX.setFlight_upZ fl fun h4 hh4 up4 => wpAny_throw (tk _ _ ⟨a, B, sI, pins, σ, H, cls, d, rfl, J, nb, up.trans up4, .inr (.inr (by rw [hs]; exact hh4)), na, os, ag, want⟩)
    first
      | exact wpAny_bind (wpAny_pure (wpAny_bind fin))
      | exact wpAny_bind fin
  | @cons t n i b0 suite pos cs ts hds2 l2 ht hi hln hsu r ih =>
    intro h fl up want
    obtain ⟨b, hb, yes, no⟩ := want
    obtain ⟨oe, vs, he, hz, hd⟩ := fl.there
    obtain ⟨nL, nF⟩ := place fl
    have J3 : Inv X pins σ H { s' with heap := h } := J.landed nb fl.1 up os ag
    refine wpAny_handleBy_cons (codeAny_handlers_test (ht a oe (X.pn ++ pins) [] _ σ H b _ _ (J3.suite he hd na nL nF) (by rw [hz.1]; exact hb) fun h5 k5 => ?_)) (by intro q; cases q)
    have fl5 := fly_kept k5 fl
    have up5 := up.trans (Heap.UpToSlots.of_keeps k5)
    cases b with
    | false => exact ih h5 fl5 up5 (no rfl)
    | true =>
      refine codeAny_handlers_suite_as (HandSPX.lands_againZ fl5 fun h6 fl6 up6 => ?_)
      obtain ⟨oe6, vs6, he6, hz6, hd6⟩ := fl6.there
      have J6 : Inv X pins σ H { s' with heap := h6 } := J.landed nb fl6.1 (up5.trans up6) os ag
      refine store_ok (X := X.suite a ((a, oe6) :: (X.pn ++ pins))) (v := .ref a) (J6.suite he6 hd6 na nL nF) hN hi (.inl hln) rfl (fun s7 S7 => ?_) (.inr hln)
      refine wpAny_mono ((hsu a oe6 cls d (X.pn ++ pins) hz6 ⟨_, hd6⟩).run [] s7 _ H _ S7 (yes rfl a oe6 hz6 ⟨_, hd6⟩ na)) (fun f s8 hsp => ?_) (fun _ _ z => False.elim z)
      have leave : ∀ {σ8 : L2.St} {H8 : Hp} {Q : Shared → Prop}, Inv (X.suite a ((a, oe6) :: (X.pn ++ pins))) [] σ8 H8 s8 → (∀ s9, Inv X pins (σ8.set i none) H8 s9 → Q s9) →
          wpAny (model X.prog X.w) X.A (do bindName X.env n .none; unbindBehindTheSuite X.env n pos) (fun _ s9 => Q s9) X.xe s8 := fun {σ8 H8 Q} S8 hq => gone_ok (S8.unsuite ok) hN hi hln hq
      cases f with
      | next => exact let ⟨_, _, S8, q8⟩ := hsp; leave S8 fun _ J9 => ⟨_, _, J9, q8⟩
      | brk => exact let ⟨_, _, S8, q8⟩ := hsp; leave S8 fun _ J9 => ⟨_, _, J9, q8⟩
      | cont => exact let ⟨_, _, S8, q8⟩ := hsp; leave S8 fun _ J9 => ⟨_, _, J9, q8⟩
      | ret u => exact let ⟨_, _, _, S8, r8, q8⟩ := hsp; leave S8 fun _ J9 => ⟨_, _, _, J9, r8, q8⟩
/-- try: body, except T as n: suite, .. -/
theorem ps_tryA (hs : X.stack = X.env :: X.outer) (hf : X.env.frame = some X.env.locals) (hN : X.N.Nodup) (tk : Takes X Wout)
    (hb : ∀ (W : WX) (pn : List (Addr × Obj)) (xe : Value → Shared → Prop), Takes (X.tr pn xe) W → PassesOwn (model X.prog X.w) X.A X.env xe → PSs (X.tr pn xe) body (tb W)) (hh : ClOk X (h0 :: hds) l) :
    PS X (.Try body (h0 :: hds) [] [] pos) (fun D σ H => tb (wCl X.K Wout D l) D σ H) := by
  constructor
  intro pins s σ H D I h
  have ok := I.ok
  have hfr : X.A.frames = some (X.env :: X.outer) := by rw [ok.frames, hs]
  refine wpAny_Try_except (wpAny_mono ((hb (wCl X.K Wout D l) (X.pn ++ pins) (fun e s1 => wpAny (model X.prog X.w) X.A (noteFrame e X.env) (fun _ s2 => wpAny (model X.prog X.w) X.A (setFlight e none) (fun _ s3 =>
    wpAny (model X.prog X.w) X.A (handleBy e X.env (h0 :: hds)) (SP X pins D) X.xe s3) X.xe s2) X.xe s1) (fun u s' xx => ?_) PassesOwn.looking).run [] s σ H D (I.toTry _) h) (fun f s1 hsp => ?_) (fun e s1 he => he))
  · obtain ⟨a, B, sI, pins', σ', H', cls, d, rfl, J', nb, up, sky, na, os, ag, want⟩ := xx
    have sky' : Sky B (X.env :: X.outer) a (Zc cls d) X.env.locals s'.heap := by rw [← hs]; exact sky
    show wpAny (model X.prog X.w) X.A (noteFrame (.ref a) X.env) _ _ _
    exact Sky.land Zc.steady hfr hf sky' fun h3 fl3 up3 => clauses_run hs hf hN tk (J'.ofTry ok) nb na os ag hh h3 fl3 (up.trans up3) want
  · cases f with
    | next => exact let ⟨σ', H', J', q⟩ := hsp; wpAny_execs_nil ⟨σ', H', J'.ofTry ok, q⟩
    | brk => exact let ⟨σ', H', J', q⟩ := hsp; ⟨σ', H', J'.ofTry ok, q⟩
    | cont => exact let ⟨σ', H', J', q⟩ := hsp; ⟨σ', H', J'.ofTry ok, q⟩
    | ret u => exact let ⟨v, σ', H', J', r, q⟩ := hsp; ⟨v, σ', H', J'.ofTry ok, r, q⟩
end
end Sz
/-! own errors with one field, over any built-in base -/
namespace Sz
open PySem PySem.Spec PyProof.Rows L2
/-- what is written of the error class at C: its __init__ at fI sets the field f -/
structure ErrC (K : PySem.W.Frag) (C fI : Addr) (f : Str) : Prop where
  ex : ∃ (B newId initId : String) (bmB : List Value), ExcBaseFacts B newId initId bmB ∧ StoreFacts B bmB "object.__setattr__" "object" ∧ PySem.W.excInitIn K C bmB newId = true ∧ PySem.W.excOver K C bmB = true
  sa : PySem.W.findIn K (.ref C) "__setattr__" = some (some (.builtin "object.__setattr__"))
  tk : PySem.W.takerIn K C f = some none
  hd : PySem.W.hasDictIn K C = true
  exC : PySem.W.subIn K (.ref C) (.type "BaseException") = some true
  tyC : PySem.W.typeIn K (.ref C) = some (.type "type")
  kC : PySem.W.keepIn K (.ref C) = true
  iC : PySem.W.findIn K (.ref C) "__init__" = some (some (.ref fI))
  tI : PySem.W.typeIn K (.ref fI) = some (.type "function")
section
open Builtin Builtin.ObjectAttr
variable {prog : Program} {w : World} {A : Around} {R : Result → Shared → Prop} {hp : Heap} {g : Array GenState} {d : Drawn} {t : Nat} {os : OsState}
/-- the first field of an error -/
theorem err_osa {K : PySem.W.Frag} {C fI : Addr} {f : Str} {tk : Tok} {v : Value} {x : Addr} {fv : Array Value} (T : ErrC K C fI f) (X : K.In hp) (hx : hp.get? x = some { cls := .ref C, data := .fields fv })
    (hq : ∀ h' tk' dx, (∀ b o, b ≠ x → hp.get? b = some o → h'.get? b = some o) → hp.objs.size ≤ dx → dx ≠ x → h'.get? x = some { cls := .ref C, dict := some dx, data := .fields fv } →
      h'.Ns1 dx (fun y => if y = f then some v else none) → R (.ok (.ret .none)) ⟨h', g, d, tk', os⟩) :
    codeAny (model prog w) A (.call (.builtin "object.__setattr__") ⟨[.ref x, .str f tk, v], []⟩) R ⟨hp, g, d, t, os⟩ := by
  obtain ⟨B, newId, initId, bmB, FB, SF, _, ov⟩ := T.ex
  have hxs : x ≠ hp.objs.size := Nat.ne_of_lt (Heap.lt_size hx)
  refine PySem.W.osa_openX (s := ⟨hp, g, d, t, os⟩) (od := none) SF X ⟨hx, rfl, rfl, trivial⟩ ov T.tk fun b => ?_
  show wpAny _ _ (storeInOwnDict (.ref x) (.ref C) (.str f tk) f v b) _ _ _
  obtain ⟨cd, hc, hh⟩ := PySem.W.any_some T.hd
  have hcls : PySem.W.Looks (model prog w) hp (classData C) cd := PySem.W.looks_clsIn X hc
  obtain ⟨nm, bs, mro, ns, qn, hd, sn, sb, ab, col, del⟩ := cd
  dsimp only at hh
  subst hh
  unfold storeInOwnDict ownDictForStores
  repeat (first | with_reducible refine HandSPX.store_in_new ?_ ?_ | with_reducible refine wpAny_loadPart_at hx ?_ | with_reducible refine hcls.at ?_ | wp_step)
  · exact ⟨_, #[], _, (Heap.get?_update_ne _ _ _ _ hxs.symm).trans (Heap.get?_push_at rfl rfl), rfl, fun e he => absurd he (by simp), fun _ => rfl⟩
  · intro h' tk' hn' hs
    have h1 : (hp.push { cls := .type "dict", data := .dict #[] }).get? x = some { cls := .ref C, data := .fields fv } := Heap.get?_push_of_some _ hx
    refine hq h' tk' hp.objs.size (fun b o hb ho => ?_) (Nat.le_refl _) hxs.symm ?_ hn'
    · exact (hs.2 b (Nat.ne_of_lt (Heap.lt_size ho))).trans ((Heap.get?_update_ne _ _ _ _ hb).trans (Heap.get?_push_of_some _ ho))
    · exact (hs.2 x hxs).trans (Heap.get?_update_self _ h1 rfl)
end
section
variable {X : Cx} {pins : List (Addr × Obj)} {σ : L2.St} {H : Hp} {s : Shared} {a C fI dx : Addr} {f : Str} {y : V} {u : Value}
theorem err_first {A : Around} {Q : Unit → Shared → Prop} {E : Value → Shared → Prop} (T : ErrC X.K C fI f) (I : Inv X pins σ H s) (e : H a = some (exo a C none)) (ry : RelV y u)
    (h : ∀ dx s', H dx = none → dx ≠ a → Inv X pins σ (upd (upd H dx (exd dx [(f, y)])) a (exo a C (some dx))) s' → Q () s') : wpAny (model X.prog X.w) A (setAttr (.ref a) f u) Q E s := by
  obtain ⟨t1, ho⟩ := exo_at I.hok e
  obtain ⟨hp, g, dr, t, os⟩ := s
  refine PySem.W.set_plain I.kIn (ox := { cls := .ref C, dict := none, data := .fields #[.ref t1, .none, .none, .none, .bool false, .none] }) (od := none) ⟨ho, rfl, rfl, trivial⟩ T.sa (err_osa T I.kIn ho fun h' tk' dx k dn dne hx hn => ?_)
  have free : H dx = none := I.hok.fresh dn
  have old : ∀ {b : Addr} {o : Obj}, hp.get? b = some o → b ≠ dx := fun z => Nat.ne_of_lt (Nat.lt_of_lt_of_le (Heap.lt_size z) dn)
  have off : ∀ {b : Addr}, H b = none → b ≠ a := fun n z => by
    rw [z, e] at n
    cases n
  have same : ∀ {b : Addr} {o : HO}, H b = some o → exo a C none ≠ o → (upd (upd H dx (exd dx [(f, y)])) a (exo a C (some dx))) b = some o := fun z ne => by
    rw [upd_ne (at_ne e z ne), upd_ne (ne_of_none z free)]
    exact z
  refine h dx _ free dne (I.un (t' := tk') ⟨fun b o z n _ _ => k b o (off n) z, fun b o z n _ _ => ⟨o.slots, k b o (off n) z⟩, fun b o z n _ => by rw [upd_ne (off n), upd_ne (old z)]; exact n, fun b o z _ => ?_, fun b xs z => same z exo_tup, fun b o v z => same z exo_frz, fun b ps z => ⟨#[], by rw [same z exo_tbl]; simp⟩⟩ fun b o z => ?_)
  · by_cases hb : b = a
    · exact ⟨_, by rw [hb]; exact hx⟩
    · exact ⟨o, k b o hb z⟩
  · by_cases hb : b = a
    · subst hb
      rw [upd_same] at z
      cases z
      exact exo_ok hx
    · rw [upd_ne hb] at z
      by_cases hd : b = dx
      · subst hd
        rw [upd_same] at z
        cases z
        exact exd_ok hn (relO_put (fs := []) ry fun _ => True.intro)
      · rw [upd_ne hd] at z
        refine (I.hok b o z).stay (fun c v hc q => k c v ?_ q) (fun c hc => same hc exo_own) (fun c xs hc => same hc exo_tup)
        rcases hc with hc | hc
        · rw [hc]
          exact hb
        · exact at_ne e hc exo_own
/-- self.f = e in an error's __init__ -/
theorem ps_errFld {o v : Expr} {p' pos : Pos} {to te : TE} (hop : PE X o to) (hv : PE X v te) (hs : swapsWith v (some (.Attribute o f p')) pos.line X.env = pure false := by rfl) :
    PS X (.Assign [.Attribute o f p'] v pos) (fun D σ H => te σ H fun y H1 => to σ H1 fun x H2 => ∃ a C fI : Addr, x = .ref a ∧ ErrC X.K C fI f ∧ H2 a = some (exo a C none) ∧ ∀ dx, H2 dx = none → dx ≠ a → D.nx σ (upd (upd H2 dx (exd dx [(f, y)])) a (exo a C (some dx)))) := by
  constructor
  intro pins s σ H D I h
  refine plainObj_wpAny_Assign_Attribute (thn (hv.run pins s σ H _ I h) fun w1 s1 ⟨y, H1, I1, r1, q1⟩ => thn (hop.run pins s1 σ H1 _ I1 q1) fun w2 s2 ⟨x, H2, I2, r2, a, C, fI, ex, T, ea, q⟩ => ?_) hs
  subst ex
  obtain rfl : w2 = Value.ref a := r2
  exact err_first T I2 ea r1 fun dx s' n ne J => ⟨σ, _, J, q dx n ne⟩
end
/-- what __init__ of an error class promises -/
def spErr (K : PySem.W.Frag) (C fI : Addr) (f : Str) : Sp := fun vs H Q _ => ∃ (a : Addr) (v : V), vs = [.ref a, v] ∧ ErrC K C fI f ∧ H a = some (exo a C none) ∧ ∀ dx, H dx = none → dx ≠ a → Q .non (upd (upd H dx (exd dx [(f, v)])) a (exo a C (some dx)))
/-- raise C(e) asks: the field's value, then the wish of the error with its own dict -/
def tErr (C : Addr) (f : Str) (te : TE) : L2.St → Hp → XK → Prop := fun σ H Q => te σ H fun v H1 => ∀ d, H1 d = none → Q (.ref C) (some d) (upd H1 d (.xd [(f, v)]))
section
variable {X : Cx} {x : Str} {C fI : Addr} {f : Str} {e : Expr} {te : TE} {k : Nat} {p pos : Pos} {fd : FuncData} {ps : List Str}
theorem pmk_err (T : ErrC X.K C fI f) (F1 : FnOk X.prog X.w X.K X.mg X.base CX0 k fI fd ps (spErr X.K C fI f)) (hb : Binds X.K fd ps []) (hr : Room (k + 1) X.A) (hg : Gl X x) (hm : X.mg x = some (.ref C)) (he : PE X e te)
    (hdb : (x == ("__debug__" : Str)) = false := by decide) (hst : starEach [e] X.env = (false, eval e X.env) :: starEach [] X.env := by rfl) (hpl : (backTo pos (starEach [] X.env)).any (·.1) = false := by rfl) :
    PMk X (.Call (.Name x p) [e] [] pos) (tErr C f te) := by
  intro pins s σ H Q I h
  obtain ⟨B, newId, initId, bmB, FB, SF, ini, _⟩ := T.ex
  refine wpAny_Call_Name_kw (ld_glob I hg hm ?_ hdb)
  refine PySem.W.callWith_K (h₀ := X.base) I.ok.mod.kin T.kC (thn ((pa_cons he pa_nil hst).run pos pins s σ H (fun vs H1 => match vs with | [v] => ∀ d, H1 d = none → Q (.ref C) (some d) (upd H1 d (.xd [(f, v)])) | _ => False) I h) ?_) hst hpl
  rintro us s1 ⟨vs, H1, I1, r1, q⟩
  match vs, r1, q with
  | [v], r1, q =>
    obtain ⟨uv, rfl, ru⟩ := vals1 r1
    refine ⟨I1.kIn, ?_⟩
    show wpAny _ _ (call (.ref C) [uv]) _ _ _
    obtain ⟨nm, N', qn, bs, bm, hdct, sn, sub, ab, col, dd, k0, k1, k2, k3, k5, hC, hT⟩ := PySem.W.excInit_of I1.kIn ini
    obtain ⟨hp, g, dr, tk, os⟩ := s1
    have hsz : hp.objs.size ≤ hp.objs.size + 1 := Nat.le_succ _
    have hn : H1 (hp.objs.size + 1) = none := I1.hok.fresh hsz
    have kk : ∀ b o, hp.get? b = some o → ((hp.push (PySem.W.kdv_tup [uv])).push (HandSPX.excO C hp.objs.size)).get? b = some o := fun b o z => Heap.get?_push_of_some _ (Heap.get?_push_of_some _ z)
    have hget : ((hp.push (PySem.W.kdv_tup [uv])).push (HandSPX.excO C hp.objs.size)).get? (hp.objs.size + 1) = some (HandSPX.excO C hp.objs.size) := by heap_get
    have I2 : Inv X pins σ (upd H1 (hp.objs.size + 1) (exo (hp.objs.size + 1) C none)) ⟨(hp.push (PySem.W.kdv_tup [uv])).push (HandSPX.excO C hp.objs.size), g, dr, tk, os⟩ := I1.laid (t' := tk) kk hsz (exo_ok hget)
    have r2 : Vals [V.ref (hp.objs.size + 1), v] [Value.ref (hp.objs.size + 1), uv] := .cons rfl (.cons ru .nil)
    have want : spErr X.K C fI f [V.ref (hp.objs.size + 1), v] (upd H1 (hp.objs.size + 1) (exo (hp.objs.size + 1) C none)) (fun z H2 => z = .non ∧ ∃ (d : Addr) (fs : List (Str × V)), H2 (hp.objs.size + 1) = some (exo (hp.objs.size + 1) C (some d)) ∧ H2 d = some (exd d fs) ∧ H1 d = none ∧
        Q (.ref C) (some d) (upd (del H2 (hp.objs.size + 1)) d (.xd fs))) (fun _ _ _ => False) := by
      refine ⟨_, v, rfl, T, upd_same, fun dx hdx ndx => ⟨rfl, dx, [(f, v)], upd_same, ?_, ?_, ?_⟩⟩
      · rw [upd_ne ndx, upd_same]
      · rw [upd_ne ndx] at hdx
        exact hdx
      · rw [upd_ne ndx] at hdx
        have eq : upd (del (upd (upd (upd H1 (hp.objs.size + 1) (exo (hp.objs.size + 1) C none)) dx (exd dx [(f, v)])) (hp.objs.size + 1) (exo (hp.objs.size + 1) C (some dx))) (hp.objs.size + 1)) dx (.xd [(f, v)]) = upd H1 dx (.xd [(f, v)]) := by
          funext b
          by_cases hb : b = dx
          · rw [hb, upd_same, upd_same]
          · rw [upd_ne hb, upd_ne hb]
            by_cases ha : b = hp.objs.size + 1
            · rw [ha, del_same, hn]
            · rw [del_ne ha, upd_ne ha, upd_ne hb, upd_ne ha]
        rw [eq]
        exact q dx hdx
    have hl : [Value.ref (hp.objs.size + 1), uv].length = ps.length := F1.len _ _ _ _ want
    refine wpAny_call (HandSPX.call_own FB hT hC (PySem.W.looks_findIn I1.kIn T.iC) (fun self => PySem.W.bind_fn I1.kIn self T.tI) (by show 1 ≤ sizeLine; decide)
      (codeAny_mono (F1.run _ X.stack _ _ ⟨[Value.ref (hp.objs.size + 1), uv], []⟩ ([Value.ref (hp.objs.size + 1), uv] ++ []) ([V.ref (hp.objs.size + 1), v] ++ []) _ (fun _ _ _ => False) (hr.make C [uv] []) (I2.env0.make C [uv] []) (hb _ [Value.ref (hp.objs.size + 1), uv] I2.kIn hl) (r2.append .nil) want) fun r s' hq => ?_))
    cases r with
    | error er => exact False.elim hq
    | ok fl =>
      cases fl with
      | ret u =>
        obtain ⟨z, H2, os2, bare2, un2, hok2, rv, ez, d, fs, ea, ed, hd1, q2⟩ := hq
        subst ez
        obtain ⟨h2, g2, d2, t2, os'⟩ := s'
        exact ⟨rv, mk_end (raises_own T.exC T.tyC) I1 hsz kk un2 hok2 os2 bare2 ea ed hd1 q2⟩
      | next => exact False.elim hq
      | brk => exact False.elim hq
      | cont => exact False.elim hq
end
end Sz
/-! isinstance and the fields of the error that is pinned -/
namespace Sz
open PySem PySem.Spec PyProof.Rows L2
section
open PySem.W PySem.Calls
variable {prog : Program} {w : World} {A : Around} {E : Value → Shared → Prop} {s : Shared} {K : Frag} {x D : Addr} {ox : Obj} {od : Option Obj}
/-- x.__class__ of an error, with a dict or without -/
theorem err_class {Q : Option Value → Shared → Prop} (T : ExcC K D) (X : K.In s.heap) (I : InstAt s.heap x ox D od) (h : Q (some (.ref D)) { s with toks := s.toks + 1 }) : wpAny (model prog w) A (getAttr? (.ref x) "__class__") Q E s := by
  have isC : (clsIn K D).isSome = true := by obtain ⟨cd, hc, _⟩ := any_some T.hd; rw [hc]; rfl
  have found : findObj K D od "__class__" = some (.bind (.builtin "getset_descriptor.__get__") (.builtin "object.__class__")) := by
    cases od with
    | none => exact findObj_dataN isC T.ha T.hn T.ht
    | some o => exact findObj_data isC T.ha T.hn T.ht
  obtain ⟨hp, g, dr, t, os⟩ := s
  have l0 := I.type (M := model prog w)
  have l1 := looks_findIn (M := model prog w) X T.hg
  have l2 := looks_findIn (M := model prog w) X T.hk
  have l3 := looks_find (M := model prog w) X I found
  have sub : Looks (model prog w) hp (isInstance (.ref x) (.type "BaseException")) true := l0.andThen (looks_subIn X T.hs)
  have n2 : (Value.builtin "BaseException.__getattribute__" == Value.builtin "object.__getattribute__") = false := by decide +kernel
  have n1 : (onTheHeap (Value.ref D) && Value.builtin "BaseException.__getattribute__" == Value.builtin "object.__getattribute__") = false := by rw [n2]; rfl
  unfold getAttr? getAttrBy? getAttrBy
  refine wpAny_bind (wpAny_mkText (wpAny_bind (wpAny_attempt (wpAny_holding (wpAny_bind (l0.at (wpAny_bind (l1.at ?_))))))))
  show wpAny _ _ (if (onTheHeap (Value.ref D) && Value.builtin "BaseException.__getattribute__" == Value.builtin "object.__getattribute__") = true then _ else _) _ _ _
  rw [n1, if_neg Bool.false_ne_true]
  unfold getAttrByItsOwn hookBefore
  refine wpAny_bind ?_
  rw [if_pos (show onTheHeap (Value.ref D) = true from rfl)]
  refine l2.at (wpAny_bind (wpAny_attempt (wpAny_holding ?_)))
  unfold callGetattribute
  rw [show (false && onTheHeap (Value.builtin "BaseException.__getattribute__")) = false from rfl, if_neg Bool.false_ne_true]
  unfold boundAndCalled
  rw [PySem.F.excAttr_ValueError.ga.bind (.ref x)]
  refine wpAny_bind (wpAny_pure ?_)
  show wpAny _ _ (call (.builtin "BaseException.__getattribute__") [.ref x, .str "__class__" t]) _ _ _
  refine wpAny_call (codeAny_call_builtin PySem.F.excAttr_ValueError.ga.plain PySem.F.entry_bexc_ga (@check_slot (model prog w) _ _ ⟨hp, g, dr, t + 1, os⟩ "BaseException.__getattribute__" "BaseException" "__getattribute__" (.ref x) [.str "__class__" t] [] _ (by decide +kernel) (by decide +kernel) sub (PySem.F.args_bexc_ga (.ref x) (.str "__class__" t)) ?_))
  unfold Builtin.«object.__getattribute__»
  refine wpAny_bind (wpAny_of_eq (a := ((Value.ref x : Value), [Value.str "__class__" t])) (by first | rfl | (simp only [slotArgs]; rfl)) ?_)
  refine wpAny_bind (wpAny_pure (wpAny_bind (l0.at (wpAny_bind (l3.at ?_)))))
  show wpAny _ _ (holding [Value.builtin "object.__class__"] (call (.builtin "getset_descriptor.__get__") [.builtin "object.__class__", .ref x, .ref D]) >>= ret) _ _ _
  refine wpAny_bind (wpAny_holding (wpAny_call (class_get (s := ⟨hp, g, dr, t + 1, os⟩) (ox := ox) (od := od) X I T.hm ?_)))
  refine wpAny_pure ?_
  show wpAny _ _ (handedOut (.ref D)) _ _ _
  rw [handedOut_of (v := .ref D) rfl]
  first
    | exact wpAny_pure (wpAny_pure h)
    | exact wpAny_pure h
    | exact wpAny_pure (wpAny_bind (wpAny_pure (wpAny_pure h)))
theorem cls_obj {cd : ClassData} (hc : clsIn K D = some cd) : ∃ c dd sl, K.lookup D = some ⟨c, dd, .cls cd, sl⟩ := by
  unfold clsIn at hc
  split at hc
  · rename_i c dd cd' sl ho
    cases hc
    exact ⟨_, _, _, ho⟩
  · cases hc
theorem kit_err (T : ExcC K D) : KitX K (.ref x) (.ref D) (fun h => ∃ od, InstAt h x ox D od) := by
  obtain ⟨cd, hc, _⟩ := any_some T.hd
  obtain ⟨c, dd, sl, ho⟩ := cls_obj hc
  refine ⟨fun _ _ _ ⟨od, I⟩ => I.type, fun _ _ X _ A' Q' E' s' k q => ?_, fun h tp dd' its n sl' X htp => ?_, fun X ⟨od, I⟩ k => err_class T X I k⟩
  · unfold isType loadHead
    exact wpAny_bind (wpAny_loadPart (k _ _ (X _ _ ho)) (wpAny_pure q))
  · refine Bool.eq_false_iff.mpr fun q => ?_
    have e : D = tp := Value.ref.inj (beq_iff_eq.mp q)
    subst e
    cases (X _ _ ho).symm.trans htp
end
section
variable {X : Cx} {a : Addr} {oe : Obj}
/-- isinstance(e, c), e the pinned error -/
def rIsP (K : PySem.W.Frag) (a : Addr) (oe : Obj) : List V → Hp → VK → Prop := fun xs H Q => ∃ (c : V) (cv : Value) (D : Addr) (b : Bool), xs = [.ref a, c] ∧ (∀ u, RelV c u → u = cv) ∧ oe.cls = .ref D ∧ ExcC K D ∧ (∃ vs, oe.data = .fields vs) ∧ (oe.dict = none ∨ ∃ (d : Addr) (fs : List (Str × V)), oe.dict = some d ∧ H d = some (.xd fs)) ∧ PySem.W.kitOne K (.ref D) cv = some b ∧ Q (.bl b) H
theorem inst_pin {pins : List (Addr × Obj)} {σ : L2.St} {H : Hp} {s : Shared} {D : Addr} (hp : (a, oe) ∈ X.pn) (I : Inv X pins σ H s) (hc : oe.cls = .ref D) (hv : ∃ vs, oe.data = .fields vs) (hd : oe.dict = none ∨ ∃ (d : Addr) (fs : List (Str × V)), oe.dict = some d ∧ H d = some (.xd fs)) :
    ∃ od, PySem.W.InstAt s.heap a oe D od := by
  have hg := (I.pin (a, oe) (List.mem_append_left _ hp)).1
  obtain ⟨vs, hv⟩ := hv
  have nc : PySem.W.notCls oe = true := by unfold PySem.W.notCls; rw [hv] <;> rfl
  rcases hd with hd | ⟨d, fs, hd, he⟩
  · exact ⟨none, hg, hc, nc, by rw [hd]; trivial⟩
  · have hx : ObjOk X.prog X.w H s.heap d (.xd fs) := I.hok d _ he
    obtain ⟨mA, hns, _⟩ := hx
    obtain ⟨od, ho, _⟩ := lookIn_ns hns
    exact ⟨some od, hg, hc, nc, by rw [hd]; exact ho⟩
theorem call_isP (hp : (a, oe) ∈ X.pn) : CallR X (.builtin "isinstance") (rIsP X.K a oe) := by
  intro pins s σ H xs us Q I r h
  obtain ⟨c, cv, D, b, rfl, hcv, hc, T, hv, hd, e, q⟩ := h
  cases r with
  | cons rx rr =>
    cases rr with
    | cons rt rr =>
      cases rr
      cases rx
      cases hcv _ rt
      exact PySem.W.kia_one (kit_err T) I.kIn (inst_pin hp I hc hv hd) e (fun z => nomatch z) fun tk => ⟨.bl b, H, I.kept (t' := tk) fun _ _ z => z, rfl, q⟩
/-- e.f, e the pinned error -/
def tXfP (K : PySem.W.Frag) (a : Addr) (oe : Obj) (f : Str) (te : TE) : TE := fun σ H Q => te σ H fun x H1 => x = .ref a ∧ ∃ (D d : Addr) (fs : List (Str × V)) (v : V), oe.cls = .ref D ∧ oe.dict = some d ∧ (∃ vs, oe.data = .fields vs) ∧ XfC K D ∧ PySem.W.findIn K (.ref D) f = some none ∧ H1 d = some (.xd fs) ∧ fs.lookup f = some v ∧ Q v H1
theorem pe_xfP {e : Expr} {te : TE} {pos : Pos} {n : Str} (hp : (a, oe) ∈ X.pn) (he : PE X e te) (hb : attributeBase e n X.env (eval e X.env) = eval e X.env := by rfl) : PE X (.Attribute e n pos) (tXfP X.K a oe n te) := by
  constructor
  intro pins s σ H Q I h
  refine attr_of hb (thn (he.run pins s σ H _ I h) fun u s1 hh => ?_)
  obtain ⟨x, H1, I1, rx, rfl, D, d, fs, v, hc, hd, ⟨vs, hv⟩, T, hno, ea, l, q⟩ := hh
  obtain rfl : u = Value.ref a := rx
  have hx : ObjOk X.prog X.w H1 s1.heap d (.xd fs) := I1.hok d _ ea
  obtain ⟨mA, hns, hr⟩ := hx
  obtain ⟨od, ho, hl⟩ := lookIn_ns hns
  obtain ⟨u, hu, ru⟩ := RelO.some_of (v := v) (o := mA n) (by rw [← l]; exact hr n)
  have hg := (I1.pin (a, oe) (List.mem_append_left _ hp)).1
  have J : PySem.W.InstAt s1.heap a oe D (some od) := ⟨hg, hc, by unfold PySem.W.notCls; rw [hv] <;> rfl, by rw [hd]; exact ho⟩
  exact HandSPX.exc_get I1.kIn J T.ga T.gg T.exC (PySem.W.findObj_own T.hdC hno rfl (by rw [hl, hu])) (handed_of ru) ⟨v, H1, I1.tok _, ru, q⟩
end
end Sz
/-! what repr shows of things of many kinds; counting among flat values -/
namespace Sz
open PySem PySem.Spec PyProof.Rows L2
/-- repr of v is z -/
inductive Shw (K : PySem.W.Frag) (H : Hp) : V → Str → Prop
  | flat {v : V} {z : Str} (h : flatShown v = some z) : Shw K H v z
  | str {y : Str} (h : (reprText y).length ≤ sizeLine) : Shw K H (.str y) (reprText y)
  | dat {a : Addr} {d : PyData} (h : Dp K H (.ref a) d) (h1 : d.showable = true) (h2 : d.hasDict = false) (h3 : d.depth ≤ 40) (h4 : d.shown.length ≤ sizeLine) : Shw K H (.ref a) d.shown
  | edict {a : Addr} (h : H a = some (.dK [])) : Shw K H (.ref a) "{}"
def rReprW (K : PySem.W.Frag) : List V → Hp → VK → Prop := fun xs H Q => ∃ (v : V) (z : Str), xs = [v] ∧ Shw K H v z ∧ Q (.str z) H
section
variable {X : Cx}
theorem cr_reprW (gd : X.A.guards = some []) (hu : X.A.units + 64 < cLine) : CallR X (.builtin "repr") (rReprW X.K) := by
  intro pins s σ H xs us Q I r h
  obtain ⟨v, z, rfl, hs, q⟩ := h
  cases hs with
  | flat h => exact cr_repr pins s σ H [v] us Q I r ⟨v, z, rfl, h, q⟩
  | str h => exact cr_reprS pins s σ H _ us Q I r ⟨_, rfl, h, q⟩
  | dat h h1 h2 h3 h4 => exact cr_reprD gd hu pins s σ H _ us Q I r ⟨_, _, rfl, h, h1, h2, h3, h4, q⟩
  | @edict a h =>
    obtain ⟨u, rfl, ru⟩ := vals1 r
    cases (show u = Value.ref a from ru)
    obtain ⟨_, ns, vs, kv, hd⟩ : ([] : List (Key × V)).length ≤ sizeLine ∧ (a == sysModules) = false ∧ ∃ vs, KV [] vs ∧ s.heap.DictOf (mixKind X.prog X.w) a vs := I.hok a _ h
    cases kv
    obtain ⟨o, es, ep, e1, e2, e3, _, e4, _⟩ := hd
    have e5 : es.toList = [] := by
      cases q : es.toList with
      | nil => rfl
      | cons x l =>
        rw [q] at e4
        cases e4
    have rd : Reads s.heap (.ref a) (.dict []) [a] := .dict (as := []) (bs := []) e1 e2.1 e3 (by rw [e5]; exact .nil) (by rw [e5]; exact .nil)
    refine repr_of_reads' rd (by decide) (fun _ z => ?_) gd (by show X.A.units + (1 + 1) < cLine; omega) (fun _ _ z => z) (fun h' tok tk kept => ?_) (by decide +kernel)
    · have z2 : sysModules = a := by simpa using z
      rw [z2] at ns
      simp at ns
    · exact ⟨.str "{}", H, I.kept (t' := tk) kept, ⟨_, by rw [show (PyData.dict []).shown = "{}" by decide +kernel]⟩, q⟩
/-- xs.count(y), flat values -/
def rCntF (K : PySem.W.Frag) : V → List V → Hp → VK → Prop := fun x xs H Q => ∃ (p : Addr) (ys : List V) (y : V), x = .ref p ∧ xs = [y] ∧ SqL K H p ys ∧ flatV y = true ∧ ys.all flatV = true ∧ Q (.int (ys.countP fun z => eqV z y : Nat)) H
theorem cnt_eqU {y : V} : ∀ {ys : List V} {us : List Value}, Vals ys us → ys.all flatV = true → us.countP (eqU y) = ys.countP fun z => eqV z y
  | _, _, .nil, _ => rfl
  | z :: ys, u :: us, .cons r t, f => by
    rw [List.all_cons, Bool.and_eq_true] at f
    rw [List.countP_cons, List.countP_cons, cnt_eqU t f.2, eqU_of r f.1]
theorem mt_countF : MtR X "list.count" (rCntF X.K) := by
  intro pins s σ H x xs v us Q I rx rxs h
  obtain ⟨p, ys, y, rfl, rfl, hs, fy, fys, q⟩ := h
  cases rx
  obtain ⟨u, rfl, ru⟩ := rxs.one
  obtain ⟨its, rv, ⟨⟨cls, dd, data, sl⟩, n, ho, hc, hdn, hd⟩, hlen⟩ := I.list hs
  simp only at hc hd
  subst hc hd
  refine call_meets PySem.F.slot_list_count ⟨_, ho, rfl⟩ PySem.F.entry_list_count (PySem.F.args_list_count_2 _ _)
    (SeqAt.list_countAt p its.toArray n dd sl u (eqU y)) ⟨ho, fun z hz => mem_eqAt ru fy rv fys z (by simpa using hz), ?_⟩
  refine ⟨.int (ys.countP fun z => eqV z y : Nat), H, I.tok _, ⟨s.toks, ?_⟩, q⟩
  show Value.int ((its.toArray.toList.countP (eqU y) : Nat) : Int) s.toks = _
  rw [show its.toArray.toList = its from rfl, cnt_eqU rv fys]
end
end Sz
/-! a head that tells of the tables of code objects too, and the law's call with them -/
namespace Sz
open PySem PySem.Spec PyProof.Rows L2
/-! ### the hook -/
structure SaysU (fb : PySem.W.Frag → Bool) (fa : List He.Fa) (fn : List He.DefD) (ts : List He.Tab) (tf : List He.Defn) (w : World) (h : Heap) (K : PySem.W.Frag) : Prop where
  x : SaysX fb fa fn ts w K
  hd : ∀ p ∈ tf, PySem.W.codeHdIn K (He.cT K p).1 (He.cT K p).2 = true
  out : ∀ p ∈ tf, K.lookup (He.cT K p).2 = none
  empty : ∀ p ∈ tf, h.get? (He.cT K p).2 = some { cls := .none, data := .fields #[] }
def obsUG (n : Nat) (fb : PySem.W.Frag → Bool) (fa : List He.Fa) (fn : List He.DefD) (ts : List He.Tab) (tf : List He.Defn) (g : Addr → Option Obj) : Bool × AlX := (He.tabsB g tf (He.frT g (asX g n)), obsX fb fa fn ts (He.frT g (asX g n)))
def hookU (n : Nat) (fb : PySem.W.Frag → Bool) (fa : List He.Fa) (fn : List He.DefD) (ts : List He.Tab) (tf : List He.Defn) : PySem.W.Hook where
  α := Bool × AlX
  obs := fun s => obsUG n fb fa fn ts tf s.heap.get?
  val := fun w => (true, valX fn ts w)
  says := fun w h => ∃ K : PySem.W.Frag, K.In h ∧ SaysU fb fa fn ts tf w h K
  of := fun w s e => by
    have e1 : He.tabsB s.heap.get? tf (He.frT s.heap.get? (asX s.heap.get? n)) = true := congrArg (fun z : Bool × AlX => z.1) e
    have e2 : obsX fb fa fn ts (He.frT s.heap.get? (asX s.heap.get? n)) = valX fn ts w := congrArg (fun z : Bool × AlX => z.2) e
    have key : ∀ p ∈ tf, PySem.W.codeHdIn (He.frT s.heap.get? (asX s.heap.get? n)) (He.cT (He.frT s.heap.get? (asX s.heap.get? n)) p).1 (He.cT (He.frT s.heap.get? (asX s.heap.get? n)) p).2 = true ∧ ∃ o, s.heap.get? (He.cT (He.frT s.heap.get? (asX s.heap.get? n)) p).2 = some o ∧ He.emptyTab o = true := fun p hp => by
      obtain ⟨h3, h4⟩ := He.ba (List.all_eq_true.mp e1 p hp)
      refine ⟨h3, ?_⟩
      cases q : s.heap.get? (He.cT (He.frT s.heap.get? (asX s.heap.get? n)) p).2 with
      | none =>
        rw [q] at h4
        cases h4
      | some o =>
        rw [q] at h4
        exact ⟨o, rfl, h4⟩
    refine ⟨_, He.frT_in, e2, fun p hp => (key p hp).1, fun p hp => ?_, fun p hp => ?_⟩
    · obtain ⟨_, o, q, z⟩ := key p hp
      exact He.frT_none q z
    · obtain ⟨_, o, q, z⟩ := key p hp
      rw [q, He.emptyTab_eq z]
  keeps := fun _ _ _ ⟨K, hK, c⟩ k => ⟨K, PySem.W.Frag.In.keeps hK k, c.x, c.hd, c.out, fun p hp => k _ _ (c.empty p hp)⟩
theorem obsUG_eq {n : Nat} {fb : PySem.W.Frag → Bool} {fa : List He.Fa} {fn : List He.DefD} {ts : List He.Tab} {tf : List He.Defn} {g : Addr → Option Obj} {s : Shared} (h : ∀ a, g a = s.heap.get? a) : obsUG n fb fa fn ts tf g = (hookU n fb fa fn ts tf).obs s := by
  rw [show g = s.heap.get? from funext h]
  rfl
/-! ### the law's call -/
section
variable {P : Program} {w : World} {K : PySem.W.Frag} {mg mb : Str → Option Value} {k : Nat} {fa a : Addr} {fd : FuncData} {x : Str} {sp : Sp} {st : Shared} {vs : List Value} {ns : List Int} {cs : List (Addr × Addr)}
/-- the script and the tables -/
def scriptHpT (K : PySem.W.Frag) (a : Addr) (vs : List Value) (ns : List Int) (cs : List (Addr × Addr)) : Hp := fun b => if b ∈ cs.map (·.2) then some (.tbl #[]) else scriptHp K a vs ns b
theorem law_callGT (KX : K.In st.heap) (gl : st.heap.Ns mainGlobals mg) (bl : st.heap.Ns builtinsNs mb) (bb : ∀ y : Str, y ≠ "__name__" → mb y = bootBuiltins y) (nl : st.heap.NoLimit) (gn : st.gens = #[])
    (hT : ∀ p ∈ cs, st.heap.get? p.2 = some { cls := .none, data := .fields #[] }) (nT : ∀ p ∈ cs, K.lookup p.2 = none) (C : ∀ p ∈ cs, PySem.W.CodeHd st.heap p.1 p.2)
    (hbm : ∃ (bm : Addr) (ob : Obj), mg "__builtins__" = some (.ref bm) ∧ bm ≠ builtinsNs ∧ st.heap.get? bm = some ob ∧ ob.cls = .type "module" ∧ ob.dict = some builtinsNs ∧ ob.data = .plain)
    (ha : st.heap.get? a = some { cls := .type "list", data := .seq vs.toArray }) (hi : IntsAre vs ns) (hl : ns.length ≤ sizeLine) (room : Room k callerA)
    (F : ∀ base : Heap, K.In base → base.Ns mainGlobals mg → (∀ p ∈ cs, LamX.TabB base mg p.1 p.2) → FnG P w K mg base k fa fd [x] sp) (bind1 : ∀ (s : Shared) (u : Value), BindsTo s fd ⟨[u], []⟩ [(x, u)])
    (want : ∀ H : Hp, (∀ p ∈ cs, H p.2 = some (.tbl #[])) → SqL K H a (ns.map V.int) → sp [.ref a] H (fun v _ => v = .bl true) fun _ _ _ => False) :
    codeAny (model P w) callerA (.call (.ref fa) ⟨[.ref a], []⟩) (fun r s' => r = .ok (.ret (.bool true)) ∧ OldK st.heap s'.heap ∧ s'.os = st.os ∧ AllBare s'.gens) st := by
  have rel : Vals (ns.map V.int) vs := vals_ints hi
  have len : (ns.map V.int).length ≤ sizeLine := by rw [List.length_map]; exact hl
  generalize hH : scriptHpT K a vs ns cs = H
  have isT : ∀ b ∈ cs.map (·.2), st.heap.get? b = some { cls := .none, data := .fields #[] } := fun b hb => by
    obtain ⟨p, hp, e⟩ := List.mem_map.mp hb
    rw [← e]
    exact hT p hp
  have atT : ∀ p ∈ cs, H p.2 = some (.tbl #[]) := fun p hp => by
    rw [← hH]
    exact if_pos (List.mem_map.mpr ⟨p, hp, rfl⟩)
  have aT : a ∉ cs.map (·.2) := fun z => by
    have q := (isT a z).symm.trans ha
    cases q
  have sm : ∀ {b u}, H b = some u → (b ∈ cs.map (·.2) ∧ u = .tbl #[]) ∨ (b ∉ cs.map (·.2) ∧ b = a ∧ K.lookup a = none ∧ u = .frz { cls := .type "list", data := .seq vs.toArray } (.lst (ns.map V.int))) := fun {b u} e => by
    rw [← hH] at e
    by_cases hb : b ∈ cs.map (·.2)
    · exact .inl ⟨hb, (Option.some.inj ((if_pos hb).symm.trans e)).symm⟩
    · exact .inr ⟨hb, scriptHp_some ((if_neg hb).symm.trans e)⟩
  have ok : HOk P w H st.heap := fun b u e => by
    rcases sm e with ⟨hb, rfl⟩ | ⟨_, rfl, _, rfl⟩
    · exact isT b hb
    · exact ⟨ha, len, vs, _, rel, ha⟩
  have sq : SqL K H a (ns.map V.int) := by
    cases lk : K.lookup a with
    | none => exact Or.inl (Or.inr ⟨_, by rw [← hH]; exact (if_neg aT).trans (if_pos ⟨rfl, lk⟩)⟩)
    | some o =>
      have e := (KX a o lk).symm.trans ha
      cases e
      exact Or.inr ⟨_, vs.toArray, _, lk, rfl, rfl, rfl, by rw [List.size_toArray, ← rel.length]; exact len, by simpa using rel⟩
  have hid : ∀ {b o}, st.heap.get? b = some o → H b = none → (hidT st.heap H).get? b = some o := fun e n => hidT_get e n
  -- what is neither a list nor an empty record is not tracked
  have free : ∀ {b : Addr} {o : Obj}, st.heap.get? b = some o → (∀ vs n, o.data ≠ .seq vs n) → o.data ≠ .fields #[] → H b = none := fun {b o} e h1 h2 => by
    cases q : H b with
    | none => rfl
    | some u =>
      rcases sm q with ⟨hb, _⟩ | ⟨_, rfl, _, _⟩
      · cases (isT b hb).symm.trans e
        exact absurd rfl h2
      · cases ha.symm.trans e
        exact absurd rfl (h1 _ _)
  have freeN : ∀ {b : Addr} {m}, st.heap.Ns b m → H b = none := fun {b m} hn => by
    obtain ⟨o, es, ep, e1, e2, _⟩ := hn
    exact free e1 (fun _ _ z => by rw [e2] at z; cases z) (fun z => by rw [e2] at z; cases z)
  have ns1 : ∀ {b : Addr} {m}, st.heap.Ns b m → (hidT st.heap H).Ns b m := fun {b m} hn => by
    have fr := freeN hn
    obtain ⟨o, es, ep, e1, e2⟩ := hn
    exact ⟨o, es, ep, hid e1 fr, e2⟩
  have inB : K.In (hidT st.heap H) := fun b o e => hid (KX b o e) (by
    cases z : H b with
    | none => rfl
    | some u =>
      rcases sm z with ⟨hb, _⟩ | ⟨_, rfl, z2, _⟩
      · obtain ⟨p, hp, ep⟩ := List.mem_map.mp hb
        rw [← ep, nT p hp] at e
        cases e
      · rw [z2] at e
        cases e)
  have md : Mod K mg (hidT st.heap H) := ⟨inB, ns1 gl, ⟨mb, ns1 bl, bb⟩, let ⟨mc, c1, c2⟩ := nl; ⟨mc, ns1 c1, c2⟩⟩
  have TB : ∀ p ∈ cs, LamX.TabB (hidT st.heap H) mg p.1 p.2 := fun p hp => by
    refine ⟨?_, ?_, fun z => ?_⟩
    · obtain ⟨o, us, file, tf, flags, tg, inF, text, tt, e1, r1, r2, r3, r⟩ := C p hp
      exact ⟨o, us, file, tf, flags, tg, inF, text, tt, hid e1 (free e1 (fun _ _ z => by rw [r2] at z; cases z) (fun z => by rw [r2] at z; cases z; simp at r3)), r1, r2, r3, r⟩
    · obtain ⟨bm, ob, b1, b2, b3, b4, b5, b6⟩ := hbm
      refine ⟨bm, ob, b1, b2, fun q => ?_, fun q => ?_, hid b3 (free b3 (fun _ _ z => by rw [b6] at z; cases z) (fun z => by rw [b6] at z; cases z)), b4, b5, b6⟩
      · obtain ⟨o, es, ep, e, hd, _⟩ := gl
        rw [q, e] at b3
        cases b3
        rw [hd] at b6
        cases b6
      · rw [q, hT p hp] at b3
        cases b3
        cases b6
    · obtain ⟨o, es, ep, e, hd, _⟩ := gl
      rw [z, hT p hp] at e
      cases e
      cases hd
  have env : Env0 P w K mg (hidT st.heap H) callerA [] st H := ⟨rfl, md, fun _ _ e => of_hidT e, Nat.le_of_eq (hidT_size _ _), trivial, fun b z => absurd (show b ∈ ([] : List Addr) from z) (by simp), ok, .of_eq gn⟩
  refine codeAny_mono ((F _ inB (ns1 gl) TB).run callerA [] st H ⟨[.ref a], []⟩ [.ref a] [.ref a] _ _ room rfl env (bind1 st (.ref a)) (.cons rfl .nil) (want H atT sq)) fun r s' h => ?_
  cases r with
  | error z => exact False.elim h
  | ok fl =>
    cases fl with
    | next => exact False.elim h
    | brk => exact False.elim h
    | cont => exact False.elim h
    | ret u =>
      obtain ⟨v, H', os, bare, un, ok', ru, qv⟩ := h
      cases (show v = .bl true from qv)
      cases (show u = Value.bool true from ru)
      have old : ∀ b o, b ∉ cs.map (·.2) → st.heap.get? b = some o → s'.heap.get? b = some o := fun b o nb e => by
        cases z : H b with
        | none => exact un.keep b o e z (by intro y; exact absurd (show b ∈ ([] : List Addr) from y) (by simp)) (by simp)
        | some t =>
          rcases sm z with ⟨hb, _⟩ | ⟨_, rfl, _, rfl⟩
          · exact absurd hb nb
          · have e2 := (ok' _ _ (un.frzs _ _ _ z)).1
            cases ha.symm.trans e
            exact e2
      have grown : ∀ p ∈ cs, ∃ more : Array Value, s'.heap.get? p.2 = some { cls := .none, data := .fields more } := fun p hp => by
        obtain ⟨more, z⟩ := un.tbls p.2 #[] (atT p hp)
        exact ⟨_, ok' p.2 _ z⟩
      refine ⟨rfl, ⟨fun b o e => ?_, fun b o e => ?_⟩, os, bare⟩
      · by_cases hb : b ∈ cs.map (·.2)
        · obtain ⟨p, hp, rfl⟩ := List.mem_map.mp hb
          obtain ⟨more, hm⟩ := grown p hp
          cases (hT p hp).symm.trans e
          exact .inr (.inl ⟨((C p hp).tab (hT p hp)).isCodeTable, rfl, #[], more, rfl, by rw [Array.empty_append]; exact hm⟩)
        · exact .inl (old b o hb e)
      · by_cases hb : b ∈ cs.map (·.2)
        · obtain ⟨p, hp, rfl⟩ := List.mem_map.mp hb
          obtain ⟨more, hm⟩ := grown p hp
          exact ⟨_, hm⟩
        · exact ⟨o, old b o hb e⟩
end
/-- a law whose def is a PromG, with tables -/
theorem walk_ofGT {l : PySem.W.OpenLaw} {n k : Nat} {q : Program} {loose : List Str} {XP : (Str → Option Value) → Heap → Prop} {YP : World → Heap → Prop} {d : DefRec} {x : Str}
    (hn : l.most = some n) (hn2 : n ≤ sizeLine) (hdf : d.params.defaults = []) (room : Room k callerA)
    (F : ∀ (w : World) (mg : Str → Option Value) (fa : Addr) (h : Heap), YP w h → h.Ns mainGlobals mg → mg d.name = some (.ref fa) →
      ∃ (K : PySem.W.Frag) (fd : FuncData) (sp : Sp) (cs : List (Addr × Addr)), K.In h ∧ (∀ p ∈ cs, h.get? p.2 = some { cls := .none, data := .fields #[] }) ∧ (∀ p ∈ cs, K.lookup p.2 = none) ∧ (∀ p ∈ cs, PySem.W.CodeHd h p.1 p.2) ∧ (∀ (s : Shared) (u : Value), BindsTo s fd ⟨[u], []⟩ [(x, u)]) ∧
        (∀ (H : Hp) (a : Addr) (ns : List Int), ns.length ≤ n → (∀ z ∈ ns, Builtin.Int.intBits z ≤ 1048576) → (∀ p ∈ cs, H p.2 = some (.tbl #[])) → SqL K H a (ns.map V.int) → sp [.ref a] H (fun v _ => v = .bl true) fun _ _ _ => False) ∧
        ∀ base : Heap, K.In base → base.Ns mainGlobals mg → (∀ p ∈ cs, LamX.TabB base mg p.1 p.2) → FnG l.prog w K mg base k fa fd [x] sp) :
    PySem.W.WalkO q loose XP YP l.row.toRowW d [] (fun f vs => PySem.call f vs) := by
  refine Att.attach_callB hn hdf fun w sA sB mg mb fa o pm cd doc a vs ns G Y ho hd hcd hmg hobj hints hlen hbits hg => ?_
  obtain ⟨K, fd, sp, cs, KX, hT, nT, C, b1, want, hF⟩ := F w mg fa _ Y G.T.g hmg
  exact law_callGT KX G.T.g G.T.b G.T.builtins G.T.nolimit hg hT nT C G.T.bmain hobj hints (Nat.le_trans hlen hn2) room hF b1 (fun H hH hS => want H a ns hlen hbits hH hS)
end Sz
/-! a lambda handed to a def that catches what it raises -/
namespace Sz
open PySem PySem.Spec PyProof.Rows L2
theorem takes_len {X : Cx} {W : WX} (t : Takes X W) : Takes X (fun c d σ H => σ.length = X.N.length → W c d σ H) := fun u s' ⟨a, B, sI, pins, σ, H, cls, d, e, I, nb, up, sky, na, os, ag, w⟩ =>
  t u s' ⟨a, B, sI, pins, σ, H, cls, d, e, I, nb, up, sky, na, os, ag, w I.len⟩
/-- what is wished for may be had by something stronger -/
def tWeak (t : TE) : TE := fun σ H Q => ∃ K : VK, (∀ v H', K v H' → Q v H') ∧ t σ H K
theorem pe_weak {X : Cx} {e : Expr} {t : TE} (h : PE X e t) : PE X e (tWeak t) := ⟨fun pins s σ H Q I ⟨K, hK, ht⟩ => wpAny_mono (h.run pins s σ H K I ht) (fun _ _ ⟨v, H', J, r, q⟩ => ⟨v, H', J, r, hK v H' q⟩) (fun _ _ z => z)⟩
/-- the def that calls what it got, whatever its address -/
def Gives (X : Cx) (Ng : List Str) (x : Str) (st : Stmt) (a : Str) (TT : (XK → Hp → VK → Prop) → Hp → VK → Prop) : Prop := ∀ (g : Addr) (cdg : Value), LamX.GivesTo X Ng x (defScope st) g cdg (defBody st) a (X.env.qual ++ "<lambda>") TT
section
variable {X : Cx}
/-- x(lambda: body) -/
theorem pe_lamP {T : List (Addr × Str)} {TT : (XK → Hp → VK → Prop) → Hp → VK → Prop} {x a : Str} {st : Stmt} {c P : Addr} {k : Nat} {Ng : List Str} {params : Arguments} {body : Expr} {scope : Scope} {t : XK → TE} {p lpos pos : Pos} (D : DefAt X.K X.mg x st) (hg : Gl X x) (Sg : FnScope Ng [a] (defScope st))
    (hb : ∀ (kV doc pm : Value) (an : Option Addr) (cdv ct : Value) (us : List Value), us.length = 1 → bindArgs (PySem.W.fnOf x x (defArgs st) (defBody st) (defScope st) .none kV doc pm an cdv ct) ⟨us, []⟩ = pure ([a].zip us))
    (hNg : Ng[0]? = some a) (hva : Vis (defScope st) a) (hG : Gives X Ng x st a TT) (TB : LamX.TabB X.base X.mg c P) (hcode : X.env.code = .ref c) (hmT : (P, X.env.qual ++ "<lambda>") ∈ T) (hu : ∀ p ∈ T, p.1 = P → p.2 = X.env.qual ++ "<lambda>") (hr : Room (k + 2) X.A)
    (L : LamX.LamS X.env.scope scope)
    (hbody : ∀ (A : Around) (outer : List Env) (s : Shared) (H : Hp) (E : XK) (f c' : Addr), Room k (A.deeper (LamX.lamEnv X scope s.heap.objs.size f c')) → PE (LamX.lamCx X A outer s H E scope f c') body (t E))
    (hdef : defaultsOf params X.env = ([], []) := by rfl)
    (hbind : ∀ (q : Str) (cl : List (Str × Addr)) (pm cv ctv : Value), bindArgs (PySem.W.kla_fn "<lambda>" q params body scope cl pm cv ctv) ⟨[], []⟩ = pure [] := by intros; rfl)
    (hdb : (x == ("__debug__" : Str)) = false := by decide) (hd : (a == ("__debug__" : Str)) = false := by decide) (hcd : (a == ("__classdict__" : Str)) = false := by decide) :
    PE X (.Call (.Name x p) [.Lambda params body scope lpos] [] pos) (LamX.tLam T TT t) := by
  obtain ⟨g, fd, F, hm⟩ := D
  have kp := F.kp
  have bs := F.bindsN (ps := [a]) hb
  obtain ⟨oc, od, dV, kV, doc, pm, an, cdv, ct, osl, rfl, lk, hcd', _, _⟩ := F.ex
  exact LamX.pe_lamcall hg hm kp lk hcd' bs Sg hNg hva (hG g cdv) TB hcode hmT hu hr L hdef hbind hbody hdb hd hcd
end
/-- try: t = a() / except (A, B, C) as e: return h(e) / return ("told", t) -/
def TCaught (K : PySem.W.Frag) (cs : List Value) (sp : Addr × Obj → Sp) : (XK → Hp → VK → Prop) → Hp → VK → Prop := fun tl H Q =>
  tl (fun cls d H' => PySem.W.exmAny K cls cs = some true ∧ ∀ a oe, Zc cls d oe → (∃ vs, oe.data = .fields vs) → H' a = none → sp (a, oe) [.ref a] H' Q E0) H (fun v H' => ∀ t, H' t = none → Q (.ref t) (upd H' t (.tup [.str "told", v])))
theorem caught_gives {X : Cx} {x a t e h : Str} {st sth : Stmt} {A1 A2 A3 : Str} {c1 c2 c3 : Value} {k : Nat} {ps : List Str} {sp : Addr × Obj → Sp} {j : Nat} {p1 p2 p3 p4 p5 p6 p7 p8 p9 p10 p11 p12 p13 p14 p15 p16 p17 p18 : Pos} {x1 x2}
    (hN : [a, t, e].Nodup) (hbd : defBody st = [.Try [.Assign [.Name t p1] (.Call (.Name a p2) [] [] p3) p4] [.ExceptHandler (some (.Tuple [.Name A1 p5, .Name A2 p6, .Name A3 p7] x1 p8)) (some e) [.Return (some (.Call (.Name h p9) [.Name e p10] [] p11)) p12] p13] [] [] p14,
      .Return (some (.Tuple [.Constant (.str "told") j p15, .Name t p16] x2 p17)) p18])
    (ka : (defScope st).names.lookup a = some .local) (kt : (defScope st).names.lookup t = some .local) (ke : (defScope st).names.lookup e = some .local) (g1 : (defScope st).names.lookup A1 = some .globalImplicit) (g2 : (defScope st).names.lookup A2 = some .globalImplicit) (g3 : (defScope st).names.lookup A3 = some .globalImplicit)
    (gh : (defScope st).names.lookup h = some .globalImplicit) (m1 : X.mg A1 = some c1) (m2 : X.mg A2 = some c2) (m3 : X.mg A3 = some c3) (G : PromP X.prog X.w X.K X.mg X.base k h sth ps sp) (gd : X.A.guards = some []) (hr : Room (k + 1) X.A)
    (d1 : (A1 == ("__debug__" : Str)) = false := by decide) (d2 : (A2 == ("__debug__" : Str)) = false := by decide) (d3 : (A3 == ("__debug__" : Str)) = false := by decide) (d4 : (h == ("__debug__" : Str)) = false := by decide)
    (d5 : (e == ("__debug__" : Str)) = false := by decide) (d6 : (e == ("__classdict__" : Str)) = false := by decide) (d7 : (t == ("__debug__" : Str)) = false := by decide) (d8 : (t == ("__classdict__" : Str)) = false := by decide) :
    Gives X [a, t, e] x st a (TCaught X.K [c1, c2, c3] sp) := by
  intro g cdg f c' s H Q tl act hc hq
  rw [hbd]
  refine ⟨_, pss_cons (ps_tryA (X := (cxOf C8.CX0 X.prog X.w X.K X.mg X.base [a, t, e] x (defScope st) g cdg X.A X.stack s H C8.E0).nox) (Wout := fun _ _ _ _ => False)
    (tb := fun W D σ H => ∃ Ech : XK, (∀ cls d σ' H', Ech cls d H' → σ'.length = 3 → W cls d σ' H') ∧ σ[0]? = some (some (.ref f)) ∧ H c' = some (LamX.CodeO c' (X.env.qual ++ "<lambda>")) ∧ ∃ K : VK, (∀ v H', K v H' → D.nx (σ.set 1 (some v)) H') ∧ tl Ech H K)
    rfl rfl hN L2.takes0 (fun W pn xe tk _ => ?_)
    (ClOk.cons (i := 2) (test_tup g1 g2 g3 m1 m2 m3 d1 d2 d3) rfl ke (fun a' oe cls d pn _ _ => pss_one (ps_ret (pe_callE G gd ⟨?_, ?_⟩ gh rfl (pa_cons (pe_var (i := 2) rfl (.inl ke) d5 d6) pa_nil) d4))) .nil))
    (pss_one (ps_ret (pe_tup (pa_cons pe_str (pa_cons (pe_var (i := 1) rfl (.inl kt) d7 d8) pa_nil))))), ?_⟩
  · constructor
    intro pins s' σ H' D I ⟨Ech, hW, h1, h2, K, hK, h3⟩
    have hp := act _ pn xe Ech p2 p3 (takes_len tk) (fun cls d σ' H' z hl => hW cls d σ' H' z hl)
    exact (pss_one (ps_set (i := 1) (pos := p4) hN rfl (.inl kt) (pe_weak hp))).run pins s' σ H' D I ⟨K, hK, h1, h2, h3⟩
  · exact (hr.deeper _).dp
  · exact (hr.deeper _).un
  · refine ⟨_, fun cls d σ' H' z hl => ?_, rfl, hc, _, fun v H' z => ?_, hq⟩
    rotate_left
    · exact ⟨v, rfl, by show 2 ≤ sizeLine; decide, z⟩
    obtain ⟨z1, z2⟩ := z
    refine ⟨true, z1, fun _ a' oe hz hv na => ?_, fun z => Bool.noConfusion z⟩
    refine ⟨.ref a', ?_, z2 a' oe hz hv na⟩
    show (σ'.set 2 (some (.ref a')))[2]? = _
    rw [List.getElem?_set_self (by omega)]
/-- what a callee lets out of the lambda's body -/
theorem LamX_pass {X : Cx} {A : Around} {outer : List Env} {s : Shared} {H : Hp} {E : XK} {scope : Scope} {f c' : Addr} : Passes (L2.CX (LamX.lamCx X A outer s H E scope f c').prog (LamX.lamCx X A outer s H E scope f c').w) (LamX.lamCx X A outer s H E scope f c') E := passes_call (takes_of rfl rfl rfl rfl) (fun _ _ _ _ h => h)
theorem gl_lam {X : Cx} {A : Around} {outer : List Env} {s : Shared} {H : Hp} {E : XK} {scope : Scope} {f c' : Addr} {x : Str} (h : scope.names.lookup x = some .globalImplicit) : Gl (LamX.lamCx X A outer s H E scope f c') x := h
/-- a def of the text whose code object is known by its name -/
def DefC (K : PySem.W.Frag) (mg : Str → Option Value) (x : Str) (st : Stmt) : Prop := ∃ fd, FunD K x x (defArgs st) (defBody st) (defScope st) [] [] (He.fAd K (x, none)) fd ∧ mg x = some (.ref (He.fAd K (x, none)))
theorem PromG.ofT {P : Program} {w : World} {K : PySem.W.Frag} {mg : Str → Option Value} {base : Heap} {x : Str} {st : Stmt} {ps N : List Str} {sp : Sp} {k : Nat} (D : DefC K mg x st) (S : FnScope N ps (defScope st)) (len : ∀ vs H Q E, sp vs H Q E → vs.length = ps.length)
    (hb : ∀ (kV doc pm : Value) (an : Option Addr) (cdv ct : Value) (us : List Value), us.length = ps.length → bindArgs (PySem.W.fnOf x x (defArgs st) (defBody st) (defScope st) .none kV doc pm an cdv ct) ⟨us, []⟩ = pure (ps.zip us))
    (hbody : ∀ (f : Addr) (A : Around) (outer : List Env) (s : Shared) (H : Hp) (vs : List V) (Q : VK) (E : XK), Room k (A.deeper (envOfC x (defScope st) s.heap.objs.size f (.ref (He.codeOf K (x, none))))) → (A.deeper (envOfC x (defScope st) s.heap.objs.size f (.ref (He.codeOf K (x, none))))).guards = some [] → sp vs H Q E →
      ∃ t, PSs (cxOf CX0 P w K mg base N x (defScope st) f (.ref (He.codeOf K (x, none))) A outer s H E).nox (defBody st) t ∧ t { nx := fun _ H' => Q .non H', rt := Q } (start N vs) H) :
    PromG P w K mg base (k + 1) x st ps sp := by
  obtain ⟨fd, F, hm⟩ := D
  have key : ∀ cdv, (∃ (oc : Value) (od : Option Addr) (dV kV doc pm : Value) (an : Option Addr) (ct : Value) (osl : Array (Option Value)), K.lookup (He.fAd K (x, none)) = some ⟨oc, od, .func (PySem.W.fnOf x x (defArgs st) (defBody st) (defScope st) dV kV doc pm an cdv ct), osl⟩ ∧ PySem.W.codeIn K cdv x = true) → cdv = .ref (He.codeOf K (x, none)) := by
    rintro cdv ⟨oc, od, dV, kV, doc, pm, an, ct, osl, lk, hc⟩
    obtain ⟨c, rfl⟩ := He.codeIn_ref hc
    rw [He.codeOf_eq lk rfl]
  obtain ⟨c1, c2, c3, c4, c5, c6, c7, cdv, c9, c10, rfl, look, code, d1, d2⟩ := F.ex
  have e := key cdv ⟨_, _, _, _, _, _, _, _, _, look, code⟩
  subst e
  refine ⟨_, _, ⟨len, fun A outer s H args us vs Q E room gd e0 hbind rel want => ?_⟩, hm, F, F.bindsN hb⟩
  have old : ∀ b o, base.get? b = some o → s.heap.get? b = some o := fun b o e => (e0.bs b o e).1
  have inK : K.In s.heap := e0.mod.kin.keeps old
  have kinds : ∀ y ∈ ps.zip us, (defScope st).names.lookup y.1 = some .local ∨ ((defScope st).names.lookup y.1 = some .cell ∧ ((cellsFrom (s.heap.objs.size + 1) (defScope st).names []).lookup y.1).isSome = true) := by
    rintro ⟨n, v⟩ hy
    have hm : n ∈ ps := (List.of_mem_zip hy).1
    cases S.par n hm with
    | inl z => exact Or.inl z
    | inr z => exact Or.inr ⟨z, PySem.W.cellsFrom_some _ _ _ (.inl z)⟩
  obtain ⟨t, dt, rt⟩ := hbody _ A outer s H vs Q E (room.deeper _) gd want
  have dt := dt.nox
  refine codeAny_call_function room.depth (inK _ _ look) rfl S.co S.gen rfl (PySem.W.codeRec_of inK code) ?_
  refine hbind _ _ _ _ (wpAny_newFunctionEnv_cells S.kind kinds ?_)
  rintro _ rfl s1 ic
  refine ⟨(e0.mod.nolimit.keeps old).keeps ic.toInCall.keep, codeAny_func ?_⟩
  refine wpAny_mono (dt.run [] s1 (start N vs) H _ (inv_start S room.hd e0 (len _ _ _ _ want) rel ic) rt) ?_ (fun _ _ z => z)
  intro fl s' hs
  cases fl with
  | ret u => exact let ⟨v, _, H', J, rv, qv⟩ := hs; ⟨v, H', J.os, J.bare, J.base, J.hok, rv, qv⟩
  | next => exact let ⟨_, H', J, qv⟩ := hs; ⟨.non, H', J.os, J.bare, J.base, J.hok, rfl, qv⟩
  | brk => exact let ⟨_, _, _, qv⟩ := hs; False.elim qv
  | cont => exact let ⟨_, _, _, qv⟩ := hs; False.elim qv
end Sz
/-! error classes of the program by their promises; the table of all error classes -/
namespace Sz
open PySem PySem.Spec PyProof.Rows L2
/-- C(v) makes an error with the field f -/
structure PromE (P : Program) (w : World) (K : PySem.W.Frag) (mg : Str → Option Value) (base : Heap) (k : Nat) (C f : Str) : Prop where
  T : ErrC K (He.ga K C) (He.ma K (He.ga K C) "__init__") f
  mg_ : mg C = some (.ref (He.ga K C))
  ex : ∃ fd ps, FnOk P w K mg base CX0 k (He.ma K (He.ga K C) "__init__") fd ps (spErr K (He.ga K C) (He.ma K (He.ga K C) "__init__") f) ∧ Binds K fd ps []
theorem PromE.of {P : Program} {w : World} {K : PySem.W.Frag} {mg : Str → Option Value} {base : Heap} {C f q p0 p1 : Str} {st : Stmt} {a1 a2 a3 a4 : Pos} (T : ErrC K (He.ga K C) (He.ma K (He.ga K C) "__init__") f) (hm : mg C = some (.ref (He.ga K C))) (D : DefAtM K C "__init__" q st) (S : FnScope [p0, p1] [p0, p1] (defScope st))
    (hbd : defBody st = [.Assign [.Attribute (.Name p0 a1) f a2] (.Name p1 a3) a4]) (l0 : (defScope st).names.lookup p0 = some .local) (l1 : (defScope st).names.lookup p1 = some .local)
    (hb : ∀ (kV doc pm : Value) (an : Option Addr) (cdv ct : Value) (us : List Value), us.length = 2 → bindArgs (PySem.W.fnOf "__init__" q (defArgs st) (defBody st) (defScope st) .none kV doc pm an cdv ct) ⟨us, []⟩ = pure ([p0, p1].zip us))
    (d0 : (p0 == ("__debug__" : Str)) = false := by decide) (d1 : (p1 == ("__debug__" : Str)) = false := by decide) (e0 : (p0 == ("__classdict__" : Str)) = false := by decide) (e1 : (p1 == ("__classdict__" : Str)) = false := by decide) : PromE P w K mg base 1 C f := by
  obtain ⟨fd, F⟩ := D
  refine ⟨T, hm, fd, [p0, p1], F.ok (k := 0) S (fun vs H Q E h => ?_) (fun cdv A outer s H vs Q E hr h => ?_), F.bindsN (ps := [p0, p1]) hb⟩
  · obtain ⟨a, v, rfl, _⟩ := h
    rfl
  · obtain ⟨a, v, rfl, T', ha, k⟩ := h
    rw [hbd]
    exact ⟨_, pss_one (ps_errFld (pe_var (i := 0) rfl (.inl l0) d0 e0) (pe_var (i := 1) rfl (.inl l1) d1 e1)), v, rfl, .ref a, rfl, a, _, _, rfl, T', ha, fun dx h1 h2 => k dx h1 h2⟩
section
variable {X : Cx} {x f : Str} {e : Expr} {te : TE} {k : Nat} {p pos rpos : Pos} {W : WX}
/-- raise C(e) -/
theorem ps_raiseE (G : PromE X.prog X.w X.K X.mg X.base k x f) (hr : Room (k + 1) X.A) (hg : Gl X x) (tk : Takes X W) (he : PE X e te) (hc : X.calm = true := by rfl)
    (hdb : (x == ("__debug__" : Str)) = false := by decide) (hst : starEach [e] X.env = (false, eval e X.env) :: starEach [] X.env := by rfl) (hpl : (backTo pos (starEach [] X.env)).any (·.1) = false := by rfl) :
    PS X (.Raise (some (.Call (.Name x p) [e] [] pos)) none rpos) (fun _ σ H => te σ H fun v H1 => ∀ d, H1 d = none → W (.ref (He.ga X.K x)) (some d) σ (upd H1 d (.xd [(f, v)]))) := by
  obtain ⟨fd, ps, F, b⟩ := G.ex
  exact ps_raise hc tk (pmk_err G.T F b hr hg G.mg_ he hdb hst hpl)
end
/-- what a callee lets out, this def lets out -/
theorem passX {P : Program} {w : World} {K : PySem.W.Frag} {mg : Str → Option Value} {base : Heap} {N : List Str} {q : Str} {sc : Scope} {f : Addr} {cdv : Value} {A : Around} {outer : List Env} {s : Shared} {H : Hp} {E : XK} :
    Passes (L2.CX P w) (cxOf (L2.CX P w) P w K mg base N q sc f cdv A outer s H E) E := passes_call (takes_of rfl rfl rfl rfl) (fun _ _ _ _ h => h)
/-! ### facts by looking -/
/-- the built-in base: 0 ValueError, 1 LookupError, 2 ArithmeticError -/
def ebase : Nat → String
  | 0 => "ValueError"
  | 1 => "LookupError"
  | _ => "ArithmeticError"
def etail (b : Nat) : List Value := [.type (ebase b), .type "Exception", .type "BaseException", .type "object"]
def errCB (K : PySem.W.Frag) (b : Nat) (C : Addr) (f : Str) : Bool :=
  PySem.W.excInitIn K C (etail b) (ebase b ++ ".__new__") && (PySem.W.excOver K C (etail b) && (He.eqO (PySem.W.findIn K (.ref C) "__setattr__") (some (some (.builtin "object.__setattr__"))) && (He.eqO (PySem.W.takerIn K C f) (some none) &&
  (PySem.W.hasDictIn K C && (decide (PySem.W.subIn K (.ref C) (.type "BaseException") = some true) && (decide (PySem.W.typeIn K (.ref C) = some (.type "type")) && (PySem.W.keepIn K (.ref C) && (He.eqO (PySem.W.findIn K (.ref C) "__init__") (some (some (.ref (He.ma K C "__init__")))) &&
  decide (PySem.W.typeIn K (.ref (He.ma K C "__init__")) = some (.type "function"))))))))))
theorem errCB_ok {K : PySem.W.Frag} {b : Nat} {C : Addr} {f : Str} (h : errCB K b C f = true) : ErrC K C (He.ma K C "__init__") f := by
  obtain ⟨h1, h⟩ := He.ba h
  obtain ⟨h2, h⟩ := He.ba h
  obtain ⟨h3, h⟩ := He.ba h
  obtain ⟨h4, h⟩ := He.ba h
  obtain ⟨h5, h⟩ := He.ba h
  obtain ⟨h6, h⟩ := He.ba h
  obtain ⟨h7, h⟩ := He.ba h
  obtain ⟨h8, h⟩ := He.ba h
  obtain ⟨h9, h10⟩ := He.ba h
  refine ⟨?_, He.eqO_ok h3, He.eqO_ok h4, h5, of_decide_eq_true h6, of_decide_eq_true h7, h8, He.eqO_ok h9, of_decide_eq_true h10⟩
  match b, h1, h2 with
  | 0, h1, h2 => exact ⟨_, _, _, _, PySem.F.excBase_ValueError, PySem.F.store_ValueError, h1, h2⟩
  | 1, h1, h2 => exact ⟨_, _, _, _, PySem.F.excBase_LookupError, PySem.F.store_LookupError, h1, h2⟩
  | n + 2, h1, h2 => exact ⟨_, _, _, _, PySem.F.excBase_ArithmeticError, PySem.F.store_ArithmeticError, h1, h2⟩
/-- the words of all error classes -/
def ewords : List Str := ["NotAWrap", "NotAStack", "NotARoad", "InvalidKind", "InvalidBase", "InvalidLength", "InvalidNumber", "InvalidText", "InvalidRow", "InvalidNumbers", "InvalidWraps", "InvalidSeen", "InvalidDeeds", "NothingToPop", "NothingToUndo", "Busy", "TooFine", "TooManyWraps", "TooLong"]
def ew (i : Nat) : Str := ewords.getD i Str.empty
/-- of which base, by its place -/
def eb (i : Nat) : Nat := if i < 13 then 0 else if i < 16 then 1 else 2
def excCB (K : PySem.W.Frag) (D : Addr) : Bool := He.eqO (PySem.W.findIn K (.ref D) "__getattribute__") (some (some (.builtin "BaseException.__getattribute__"))) && (He.eqO (PySem.W.findIn K (.ref D) "__getattr__") (some none) && (decide (PySem.W.subIn K (.ref D) (.type "BaseException") = some true) && (PySem.W.hasDictIn K D &&
  (He.eqO (PySem.W.findIn K (.ref D) "__class__") (some (some (.builtin "object.__class__"))) && (He.eqO (PySem.W.specialIn K (.builtin "object.__class__") "__get__") (some (some (.builtin "getset_descriptor.__get__"))) && (decide (PySem.W.takesIn K (.builtin "object.__class__") = some true) && decide (PySem.W.mroIn K D (.type "object") = some true)))))))
theorem excCB_ok {K : PySem.W.Frag} {D : Addr} (h : excCB K D = true) : ExcC K D ∧ XfC K D := by
  obtain ⟨h1, h⟩ := He.ba h
  obtain ⟨h2, h⟩ := He.ba h
  obtain ⟨h3, h⟩ := He.ba h
  obtain ⟨h4, h⟩ := He.ba h
  obtain ⟨h5, h⟩ := He.ba h
  obtain ⟨h6, h⟩ := He.ba h
  obtain ⟨h7, h8⟩ := He.ba h
  exact ⟨⟨He.eqO_ok h1, He.eqO_ok h2, of_decide_eq_true h3, h4, He.eqO_ok h5, He.eqO_ok h6, of_decide_eq_true h7, of_decide_eq_true h8⟩, He.eqO_ok h1, He.eqO_ok h2, of_decide_eq_true h3, h4⟩
def ebs : List Str := ["Misfit", "Untimely", "Excess"]
/-- all that is asked of the error class at place i -/
def etabB (K : PySem.W.Frag) (i : Nat) : Bool := excCB K (He.ga K (ew i)) && ((List.range 19).all (fun j => decide (PySem.W.kitOne K (.ref (He.ga K (ew i))) (.ref (He.ga K (ew j))) = some (decide (i = j)))) &&
  ((List.range 3).all (fun j => decide (PySem.W.kitOne K (.ref (He.ga K (ew i))) (.ref (He.ga K (ebs.getD j Str.empty))) = some (decide (eb i = j))) && decide (PySem.W.kitOne K (.ref (He.ga K (ew i))) (.type (ebase j)) = some (decide (eb i = j)))) &&
  (([("value" : Str), "index", "limit"]).all (fun f => He.eqO (PySem.W.findIn K (.ref (He.ga K (ew i))) f) (some none)) && decide (PySem.W.exmAny K (.ref (He.ga K (ew i))) [.ref (He.ga K "Misfit"), .ref (He.ga K "Untimely"), .ref (He.ga K "Excess")] = some true))))
structure ErrTab (K : PySem.W.Frag) : Prop where
  exc : ∀ i < 19, ExcC K (He.ga K (ew i))
  xf : ∀ i < 19, XfC K (He.ga K (ew i))
  kit : ∀ i < 19, ∀ j < 19, PySem.W.kitOne K (.ref (He.ga K (ew i))) (.ref (He.ga K (ew j))) = some (decide (i = j))
  kb : ∀ i < 19, ∀ j < 3, PySem.W.kitOne K (.ref (He.ga K (ew i))) (.ref (He.ga K (ebs.getD j Str.empty))) = some (decide (eb i = j))
  ko : ∀ i < 19, ∀ j < 3, PySem.W.kitOne K (.ref (He.ga K (ew i))) (.type (ebase j)) = some (decide (eb i = j))
  no : ∀ i < 19, ∀ f ∈ [("value" : Str), "index", "limit"], PySem.W.findIn K (.ref (He.ga K (ew i))) f = some none
  any : ∀ i < 19, PySem.W.exmAny K (.ref (He.ga K (ew i))) [.ref (He.ga K "Misfit"), .ref (He.ga K "Untimely"), .ref (He.ga K "Excess")] = some true
theorem etab_ok {K : PySem.W.Frag} (h : (List.range 19).all (etabB K) = true) : ErrTab K := by
  have g : ∀ i < 19, etabB K i = true := fun i hi => List.all_eq_true.mp h i (List.mem_range.mpr hi)
  have k : ∀ i < 19, _ := fun i hi => He.ba (g i hi)
  refine ⟨fun i hi => (excCB_ok (He.ba (g i hi)).1).1, fun i hi => (excCB_ok (He.ba (g i hi)).1).2, fun i hi j hj => ?_, fun i hi j hj => ?_, fun i hi j hj => ?_, fun i hi f hf => ?_, fun i hi => ?_⟩
  · exact of_decide_eq_true (List.all_eq_true.mp (He.ba (He.ba (g i hi)).2).1 j (List.mem_range.mpr hj))
  · exact of_decide_eq_true (He.ba (List.all_eq_true.mp (He.ba (He.ba (He.ba (g i hi)).2).2).1 j (List.mem_range.mpr hj))).1
  · exact of_decide_eq_true (He.ba (List.all_eq_true.mp (He.ba (He.ba (He.ba (g i hi)).2).2).1 j (List.mem_range.mpr hj))).2
  · exact He.eqO_ok (List.all_eq_true.mp (He.ba (He.ba (He.ba (He.ba (g i hi)).2).2).2).1 f hf)
  · exact of_decide_eq_true (He.ba (He.ba (He.ba (He.ba (g i hi)).2).2).2).2
end Sz
namespace Sz
/-! ### lengths with two totals -/
/-- the length whose totals are the power less one and the power -/
def dlen (b c : Int) (j : Nat) : Int := b ^ j - 1 - (j : Int) - c
theorem pow_ge2 {b : Int} (hb : 2 ≤ b) {j : Nat} (hj : 1 ≤ j) : 2 ≤ b ^ j := by
  have h := pow_mono (show 1 ≤ b by omega) (show 0 + 1 ≤ j by omega)
  rw [pow_one] at h
  omega
theorem pow_dbl {b : Int} (hb : 2 ≤ b) (j : Nat) : 2 * b ^ j ≤ b ^ (j + 1) := by
  rw [Int.pow_succ]
  have h := Int.mul_le_mul_of_nonneg_left hb (show 0 ≤ b ^ j by have := pow_pos (show 1 ≤ b by omega) j; omega)
  omega
theorem dlen_lt {b c : Int} (hb : 2 ≤ b) {j : Nat} (hj : 1 ≤ j) : dlen b c j < dlen b c (j + 1) := by
  have h1 := pow_dbl hb j
  have h2 := pow_ge2 hb hj
  unfold dlen
  omega
theorem dlen_mono {b c : Int} (hb : 2 ≤ b) {i : Nat} (hi : 1 ≤ i) : ∀ {j : Nat}, i ≤ j → dlen b c i ≤ dlen b c j
  | 0, h => by omega
  | j + 1, h => by
    by_cases e : i = j + 1
    · rw [e]
      exact Int.le_refl _
    · exact Int.le_trans (dlen_mono hb hi (j := j) (by omega)) (Int.le_of_lt (dlen_lt hb (by omega)))
/-- the first number of figures with such a length -/
structure IsJ (b c : Int) (j : Nat) : Prop where
  pos : 1 ≤ j
  ok : 0 ≤ dlen b c j
  first : ∀ i : Nat, 1 ≤ i → i < j → dlen b c i < 0
theorem isJ_ex {b c : Int} (hb : 2 ≤ b) (hc : 0 ≤ c) : ∃ j, IsJ b c j := by
  have key : ∀ n : Nat, (∃ j, IsJ b c j) ∨ ∀ i : Nat, 1 ≤ i → i < n → dlen b c i < 0 := by
    intro n
    induction n with
    | zero => exact Or.inr fun i _ h => by omega
    | succ n ih =>
      rcases ih with h | h
      · exact Or.inl h
      · by_cases hn : 1 ≤ n
        · by_cases d : 0 ≤ dlen b c n
          · exact Or.inl ⟨n, hn, d, h⟩
          · refine Or.inr fun i h1 h2 => ?_
            by_cases e : i = n
            · rw [e]
              omega
            · exact h i h1 (by omega)
        · exact Or.inr fun i h1 h2 => by omega
  rcases key (c.toNat + 3) with h | h
  · exact h
  · have h1 := h (c.toNat + 2) (by omega) (by omega)
    have h2 := two_mul_le hb (c.toNat + 2)
    unfold dlen at h1
    omega
theorem isJ_eq {b c : Int} {i j : Nat} (h : IsJ b c i) (h2 : IsJ b c j) : i = j := by
  by_cases c1 : i < j
  · have := h2.first i h.pos c1
    have := h.ok
    omega
  · by_cases c2 : j < i
    · have := h.first j h2.pos c2
      have := h2.ok
      omega
    · omega
theorem isJ_iff {b c : Int} {j i : Nat} (hb : 2 ≤ b) (h : IsJ b c j) (hi : 1 ≤ i) : 0 ≤ dlen b c i ↔ j ≤ i := by
  constructor
  · intro d
    by_cases e : j ≤ i
    · exact e
    · have := h.first i hi (by omega)
      omega
  · intro e
    exact Int.le_trans h.ok (dlen_mono hb h.pos e)
/-- it lies near -/
theorem isJ_near {b c : Int} {j : Nat} (hb : 2 ≤ b) (h : IsJ b c j) : (j : Int) ≤ c + 3 ∨ j = 1 := by
  by_cases e : j = 1
  · exact Or.inr e
  · left
    have := h.pos
    have h1 := h.first (j - 1) (by omega) (by omega)
    have h2 := two_mul_le hb (j - 1)
    unfold dlen at h1
    omega
/-- all such lengths up to a number of figures -/
def duel (b c : Int) : Nat → List Int
  | 0 => []
  | j + 1 => if 0 ≤ dlen b c (j + 1) then duel b c j ++ [dlen b c (j + 1)] else duel b c j
theorem duel_eq {b c : Int} {j : Nat} (hb : 2 ≤ b) (h : IsJ b c j) : ∀ n : Nat, duel b c n = (List.range (n + 1 - j)).map fun i => dlen b c (j + i)
  | 0 => by
    have := h.pos
    rw [show 0 + 1 - j = 0 by omega]
    rfl
  | n + 1 => by
    have ih := duel_eq hb h n
    have hi := isJ_iff hb h (show 1 ≤ n + 1 by omega)
    by_cases d : j ≤ n + 1
    · have e : n + 1 + 1 - j = (n + 1 - j) + 1 := by omega
      show (if 0 ≤ dlen b c (n + 1) then duel b c n ++ [dlen b c (n + 1)] else duel b c n) = _
      rw [if_pos (hi.mpr d), ih, e, List.range_succ, List.map_append]
      have e2 : j + (n + 1 - j) = n + 1 := by omega
      show _ = _ ++ [dlen b c (j + (n + 1 - j))]
      rw [e2]
    · have e : n + 1 + 1 - j = 0 := by omega
      have e2 : n + 1 - j = 0 := by omega
      show (if 0 ≤ dlen b c (n + 1) then duel b c n ++ [dlen b c (n + 1)] else duel b c n) = _
      rw [if_neg (fun z => d (hi.mp z)), ih, e, e2]
theorem duel_len (b c : Int) : ∀ n : Nat, (duel b c n).length ≤ n
  | 0 => Nat.le_refl _
  | n + 1 => by
    have ih := duel_len b c n
    unfold duel
    split
    · rw [List.length_append]
      simp only [List.length_singleton]
      omega
    · omega
end Sz
/-! a <= b <= c <= .. as a test, of any length -/
namespace Sz
open PySem PySem.Spec PyProof.Rows L2
/-- len within a comprehension -/
def rLenS (K : PySem.W.Frag) : List V → Hp → VK → Prop := fun xs H Q => ∃ p ys, xs = [V.ref p] ∧ (SqL K H p ys ∨ SqT K H p ys) ∧ Q (V.int (ys.length : Nat)) H
abbrev TL := V → L2.St → Hp → (Bool → Hp → Prop) → Prop
section
variable {X : Cx} {a b c : Expr} {cs : List Expr} {op op' : CmpOp} {ops : List CmpOp} {ta tb : TE} {r : R2} {t : TL} {pos : Pos}
/-- the rest of a chain, behind a value -/
def PL (X : Cx) (ops : List CmpOp) (cs : List Expr) (t : TL) : Prop :=
  ∀ (pos : Pos) (pins : List (Addr × Obj)) (s : Shared) (σ : L2.St) (H : Hp) (x : V) (v : Value) (Q : Bool → Hp → Prop), Inv X pins σ H s → RelV x v → t x σ H Q →
    wpAny (model X.prog X.w) X.A (testChain pos v ops (evalEach cs X.env)) (fun k s' => ∃ H', Inv X pins σ H' s' ∧ Q k H') X.xe s
def tlLast (r : R2) (tb : TE) : TL := fun x σ H Q => tb σ H fun y H2 => r x y H2 fun z H3 => ∃ k, z = .bl k ∧ Q k H3
def tlMore (r : R2) (tb : TE) (t : TL) : TL := fun x σ H Q => tb σ H fun y H2 => r x y H2 fun z H3 => ∃ k, z = .bl k ∧ if k = true then t y σ H3 Q else Q false H3
theorem pl_last (ho : OpR X (compareOp op) r) (hb : PE X b tb) : PL X [op] [b] (tlLast r tb) := by
  intro pos pins s σ H x v Q I rx h
  refine test_last (thn (hb.run pins s σ H _ I h) fun u s2 ⟨y, H2, I2, r2, q2⟩ => thn (ho pins s2 σ H2 x y v u _ I2 rx r2 q2) fun d s3 ⟨z, H3, I3, r3, k, e, q3⟩ => ?_)
  subst e
  cases r3
  exact wpAny_truthy_bool ⟨H3, I3, q3⟩
theorem pl_more (ho : OpR X (compareOp op) r) (hb : PE X b tb) (hr : PL X (op' :: ops) (c :: cs) t) : PL X (op :: op' :: ops) (b :: c :: cs) (tlMore r tb t) := by
  intro pos pins s σ H x v Q I rx h
  refine test_link (thn (hb.run pins s σ H _ I h) fun u s2 ⟨y, H2, I2, r2, q2⟩ => thn (ho pins s2 σ H2 x y v u _ I2 rx r2 q2) fun d s3 ⟨z, H3, I3, r3, k, e, q3⟩ => ?_)
  subst e
  cases r3
  refine wpAny_truthy_bool ?_
  cases k with
  | false => exact ite_ff ⟨H3, I3, q3⟩
  | true => exact ite_tt (hr pos pins s3 σ H3 y u Q I3 r2 q3)
def tChs (ta : TE) (t : TL) : TT := fun σ H Q => ta σ H fun x H1 => t x σ H1 Q
theorem pt_chains (ha : PE X a ta) (hr : PL X (op :: op' :: ops) (b :: c :: cs) t) (hm : lastMarks (op :: op' :: ops) (b :: c :: cs) = false := by with_unfolding_all rfl) :
    PT X (.Compare a (op :: op' :: ops) (b :: c :: cs) pos) (tChs ta t) := by
  refine ⟨fun pins s σ H Q I h => ?_⟩
  exact isTrue_chain (thn (ha.run pins s σ H _ I h) fun v s1 ⟨x, H1, I1, r1, q1⟩ => hr pos pins s1 σ H1 x v Q I1 r1 q1) hm
end
end Sz
set_option maxHeartbeats 400000
set_option pp.maxSteps 900
namespace Sz
open PySem PySem.Spec PyProof.Rows L2
def top (i : Nat) : Stmt := PySem.Challenge.pw_sizestacks_k65_whole_all_that_have_two.main.body.getD i (.Pass ⟨0, 0, 0, 0⟩)
abbrev s_InvalidNumber___init__ : Stmt := inClass (top 10) 0
theorem sc_InvalidNumber___init__ : FnScope ["self", "value"] ["self", "value"] (defScope s_InvalidNumber___init__) := ⟨rfl, rfl, rfl, by decide +kernel, rfl, by decide +kernel, by decide +kernel⟩
abbrev s_TooLong___init__ : Stmt := inClass (top 22) 0
theorem sc_TooLong___init__ : FnScope ["self", "limit"] ["self", "limit"] (defScope s_TooLong___init__) := ⟨rfl, rfl, rfl, by decide +kernel, rfl, by decide +kernel, by decide +kernel⟩
abbrev s_is_integer : Stmt := top 28
theorem sc_is_integer : FnScope ["value"] ["value"] (defScope s_is_integer) := ⟨rfl, rfl, rfl, by decide +kernel, rfl, by decide +kernel, by decide +kernel⟩
abbrev s_is_between : Stmt := top 29
theorem sc_is_between : FnScope ["value", "least", "most"] ["value", "least", "most"] (defScope s_is_between) := ⟨rfl, rfl, rfl, by decide +kernel, rfl, by decide +kernel, by decide +kernel⟩
abbrev s_check_length : Stmt := top 30
theorem sc_check_length : FnScope ["value"] ["value"] (defScope s_check_length) := ⟨rfl, rfl, rfl, by decide +kernel, rfl, by decide +kernel, by decide +kernel⟩
abbrev s_check_base : Stmt := top 31
theorem sc_check_base : FnScope ["value"] ["value"] (defScope s_check_base) := ⟨rfl, rfl, rfl, by decide +kernel, rfl, by decide +kernel, by decide +kernel⟩
abbrev s_figures_of : Stmt := top 32
theorem sc_figures_of : FnScope ["length", "base", "count", "power", "eight", "turn"] ["length", "base"] (defScope s_figures_of) := ⟨rfl, rfl, rfl, by decide +kernel, rfl, by decide +kernel, by decide +kernel⟩
abbrev s_total_of : Stmt := top 34
theorem sc_total_of : FnScope ["length", "base", "figures"] ["length", "base"] (defScope s_total_of) := ⟨rfl, rfl, rfl, by decide +kernel, rfl, by decide +kernel, by decide +kernel⟩
abbrev s_check_constant : Stmt := top 36
theorem sc_check_constant : FnScope ["value"] ["value"] (defScope s_check_constant) := ⟨rfl, rfl, rfl, by decide +kernel, rfl, by decide +kernel, by decide +kernel⟩
abbrev s_totals : Stmt := top 37
theorem sc_totals : FnScope ["base", "constant", "length", "least"] ["base", "constant", "length"] (defScope s_totals) := ⟨rfl, rfl, rfl, by decide +kernel, rfl, by decide +kernel, by decide +kernel⟩
abbrev s_doubled : Stmt := top 38
theorem sc_doubled : FnScope ["base", "constant", "number", "left", "figures", "power", "length"] ["base", "constant", "number"] (defScope s_doubled) := ⟨rfl, rfl, rfl, by decide +kernel, rfl, by decide +kernel, by decide +kernel⟩
abbrev s_L_cell : Stmt := top 40
theorem sc_L_cell : FnScope ["_law_script", "_law_k", "_law_mixed", "_law_part_here"] ["_law_script", "_law_k"] (defScope s_L_cell) := ⟨rfl, rfl, rfl, by decide +kernel, rfl, by decide +kernel, by decide +kernel⟩
abbrev s_L_purse : Stmt := top 41
theorem sc_L_purse : FnScope ["_law_cell_here", "_law_first", "_law_mixed"] ["_law_cell_here"] (defScope s_L_purse) := ⟨rfl, rfl, rfl, by decide +kernel, rfl, by decide +kernel, by decide +kernel⟩
abbrev s_L_take : Stmt := top 42
theorem sc_L_take : FnScope ["_law_purse_here", "_law_many", "_law_digit", "_law_mixed"] ["_law_purse_here", "_law_many"] (defScope s_L_take) := ⟨rfl, rfl, rfl, by decide +kernel, rfl, by decide +kernel, by decide +kernel⟩
abbrev s_L_radix : Stmt := top 43
theorem sc_L_radix : FnScope ["_law_purse_here", "_law_way"] ["_law_purse_here"] (defScope s_L_radix) := ⟨rfl, rfl, rfl, by decide +kernel, rfl, by decide +kernel, by decide +kernel⟩
abbrev s_L_extra : Stmt := top 44
theorem sc_L_extra : FnScope ["_law_purse_here", "_law_way"] ["_law_purse_here"] (defScope s_L_extra) := ⟨rfl, rfl, rfl, by decide +kernel, rfl, by decide +kernel, by decide +kernel⟩
abbrev s_L_error : Stmt := top 45
theorem sc_L_error : FnScope ["_law_e", "_law_words", "_law_fits", "_law_bases", "_law_own", "_law_at"] ["_law_e"] (defScope s_L_error) := ⟨rfl, rfl, rfl, by decide +kernel, rfl, by decide +kernel, by decide +kernel⟩
abbrev s_L_caught : Stmt := top 46
theorem sc_L_caught : FnScope ["_law_deed", "_law_told", "_law_e"] ["_law_deed"] (defScope s_L_caught) := ⟨rfl, rfl, rfl, by decide +kernel, rfl, by decide +kernel, by decide +kernel⟩
abbrev s_L_all : Stmt := top 47
theorem sc_L_all : FnScope ["_law_radix_here", "_law_extra_here", "_law_found", "_law_power", "_law_many"] ["_law_radix_here", "_law_extra_here"] (defScope s_L_all) := ⟨rfl, rfl, rfl, by decide +kernel, rfl, by decide +kernel, by decide +kernel⟩
abbrev s_L_beside : Stmt := top 48
theorem sc_L_beside : FnScope ["_law_radix_here", "_law_extra_here", "_law_amount", "_law_due", "_law_found"] ["_law_radix_here", "_law_extra_here", "_law_amount", "_law_due"] (defScope s_L_beside) := ⟨rfl, rfl, rfl, by decide +kernel, rfl, by decide +kernel, by decide +kernel⟩
abbrev s_L_right : Stmt := top 49
theorem sc_L_right : FnScope ["_law_purse_here", "_law_pairs", "_law_amount", "_law_power", "_law_turn", "_law_due", "_law_extra_here", "_law_more", "_law_radix_here", "_law_k", "_law_near"] ["_law_purse_here"] (defScope s_L_right) := ⟨rfl, rfl, rfl, by decide +kernel, rfl, by decide +kernel, by decide +kernel⟩
abbrev s_law : Stmt := top 50
theorem sc_law : FnScope ["_law_script", "_law_k"] ["_law_script"] (defScope s_law) := ⟨rfl, rfl, rfl, by decide +kernel, rfl, by decide +kernel, by decide +kernel⟩
structure Tx (K : PySem.W.Frag) (mg : Str → Option Value) : Prop where
  d_is_integer : DefAt K mg "is_integer" s_is_integer
  d_is_between : DefAt K mg "is_between" s_is_between
  d_check_length : DefAt K mg "check_length" s_check_length
  d_check_base : DefAt K mg "check_base" s_check_base
  d_figures_of : DefAt K mg "figures_of" s_figures_of
  d_total_of : DefAt K mg "total_of" s_total_of
  d_check_constant : DefAt K mg "check_constant" s_check_constant
  d_totals : DefAt K mg "totals" s_totals
  d_doubled : DefAt K mg "doubled" s_doubled
  d_L_cell : DefAt K mg "_law_cell" s_L_cell
  d_L_purse : DefAt K mg "_law_purse" s_L_purse
  d_L_take : DefAt K mg "_law_take" s_L_take
  d_L_radix : DefAt K mg "_law_radix" s_L_radix
  d_L_extra : DefAt K mg "_law_extra" s_L_extra
  d_L_error : DefAt K mg "_law_error" s_L_error
  d_L_caught : DefAt K mg "_law_caught" s_L_caught
  d_L_all : DefAt K mg "_law_all" s_L_all
  d_L_beside : DefAt K mg "_law_beside" s_L_beside
  d_L_right : DefAt K mg "_law_right" s_L_right
  d_law : DefAt K mg "law" s_law
  b_ArithmeticError : mg "ArithmeticError" = none
  b_LookupError : mg "LookupError" = none
  b_ValueError : mg "ValueError" = none
  b_abs : mg "abs" = none
  b_all : mg "all" = none
  b_divmod : mg "divmod" = none
  b_int : mg "int" = none
  b_isinstance : mg "isinstance" = none
  b_len : mg "len" = none
  b_max : mg "max" = none
  b_min : mg "min" = none
  b_range : mg "range" = none
  b_repr : mg "repr" = none
  b_tuple : mg "tuple" = none
  c_MOST_LENGTH : ∃ u, mg "MOST_LENGTH" = some (.int 1000000000000000000000000000000000000000000000000000000000000 u)
  c_MOST_CONSTANT : ∃ u, mg "MOST_CONSTANT" = some (.int 1000 u)
  c_LEAST_BASE : ∃ u, mg "LEAST_BASE" = some (.int 2 u)
  c_MOST_BASE : ∃ u, mg "MOST_BASE" = some (.int 256 u)
  er_InvalidNumber : ErrC K (He.ga K "InvalidNumber") (He.ma K (He.ga K "InvalidNumber") "__init__") "value"
  dm_InvalidNumber___init__ : DefAtM K "InvalidNumber" "__init__" "InvalidNumber.__init__" s_InvalidNumber___init__
  er_TooLong : ErrC K (He.ga K "TooLong") (He.ma K (He.ga K "TooLong") "__init__") "limit"
  dm_TooLong___init__ : DefAtM K "TooLong" "__init__" "TooLong.__init__" s_TooLong___init__
  k_InvalidNumber : mg "InvalidNumber" = some (.ref (He.ga K "InvalidNumber"))
  k_TooLong : mg "TooLong" = some (.ref (He.ga K "TooLong"))
  k_NotAWrap : mg "NotAWrap" = some (.ref (He.ga K "NotAWrap"))
  k_NotAStack : mg "NotAStack" = some (.ref (He.ga K "NotAStack"))
  k_NotARoad : mg "NotARoad" = some (.ref (He.ga K "NotARoad"))
  k_InvalidKind : mg "InvalidKind" = some (.ref (He.ga K "InvalidKind"))
  k_InvalidBase : mg "InvalidBase" = some (.ref (He.ga K "InvalidBase"))
  k_InvalidLength : mg "InvalidLength" = some (.ref (He.ga K "InvalidLength"))
  k_InvalidText : mg "InvalidText" = some (.ref (He.ga K "InvalidText"))
  k_InvalidRow : mg "InvalidRow" = some (.ref (He.ga K "InvalidRow"))
  k_InvalidNumbers : mg "InvalidNumbers" = some (.ref (He.ga K "InvalidNumbers"))
  k_InvalidWraps : mg "InvalidWraps" = some (.ref (He.ga K "InvalidWraps"))
  k_InvalidSeen : mg "InvalidSeen" = some (.ref (He.ga K "InvalidSeen"))
  k_InvalidDeeds : mg "InvalidDeeds" = some (.ref (He.ga K "InvalidDeeds"))
  k_NothingToPop : mg "NothingToPop" = some (.ref (He.ga K "NothingToPop"))
  k_NothingToUndo : mg "NothingToUndo" = some (.ref (He.ga K "NothingToUndo"))
  k_Busy : mg "Busy" = some (.ref (He.ga K "Busy"))
  k_TooFine : mg "TooFine" = some (.ref (He.ga K "TooFine"))
  k_TooManyWraps : mg "TooManyWraps" = some (.ref (He.ga K "TooManyWraps"))
  k_Misfit : mg "Misfit" = some (.ref (He.ga K "Misfit"))
  k_Untimely : mg "Untimely" = some (.ref (He.ga K "Untimely"))
  k_Excess : mg "Excess" = some (.ref (He.ga K "Excess"))
  et : ErrTab K
  dt_L_right : DefC K mg "_law_right" s_L_right
def tfL : List He.Defn := [("_law_right", none)]
def tabsOf (K : PySem.W.Frag) : List (Addr × Str) := [((He.cT K ("_law_right", none)).2, ("_law_right" : Str) ++ ".<locals>." ++ "<lambda>")]
theorem tabs_u {K : PySem.W.Frag} {x : Addr} : ∀ p ∈ tabsOf K, p.1 = x → p.2 = ("_law_right" : Str) ++ ".<locals>." ++ "<lambda>" := fun p hp _ => by rw [List.mem_singleton.mp hp]
abbrev UT (K : PySem.W.Frag) (mg : Str → Option Value) (base : Heap) : Prop := ∀ p ∈ tfL.map (He.cT K), LamX.TabB base mg p.1 p.2
theorem tabs_start {K : PySem.W.Frag} {H : Hp} (h : ∀ p ∈ tfL.map (He.cT K), H p.2 = some (.tbl #[])) : LamX.Tabs (tabsOf K) H := by
  intro p hp
  have key : ∃ d ∈ tfL, (He.cT K d).2 = p.1 := by
    simp only [tabsOf, List.mem_cons, List.not_mem_nil, or_false] at hp
    subst hp
    exact ⟨_, List.mem_cons_self .., rfl⟩
  obtain ⟨d, hd, e⟩ := key
  exact .nil (by rw [← e]; exact h _ (List.mem_map.mpr ⟨d, hd, rfl⟩))
section
variable {P : Program} {w : World} {K : PySem.W.Frag} {mg : Str → Option Value} {base : Heap}
theorem ok_err_InvalidNumber (T : Tx K mg) : PromE P w K mg base 1 "InvalidNumber" "value" :=
  PromE.of T.er_InvalidNumber T.k_InvalidNumber T.dm_InvalidNumber___init__ sc_InvalidNumber___init__ rfl rfl rfl (fun _ _ _ _ _ _ us hl => match us, hl with | [_, _], _ => rfl)
theorem ok_err_TooLong (T : Tx K mg) : PromE P w K mg base 1 "TooLong" "limit" :=
  PromE.of T.er_TooLong T.k_TooLong T.dm_TooLong___init__ sc_TooLong___init__ rfl rfl rfl (fun _ _ _ _ _ _ us hl => match us, hl with | [_, _], _ => rfl)
end
def dd_is_integer : He.DefD := ⟨("is_integer", none), "is_integer", "is_integer", defArgs s_is_integer, defBody s_is_integer, defScope s_is_integer, [], []⟩
def dd_is_between : He.DefD := ⟨("is_between", none), "is_between", "is_between", defArgs s_is_between, defBody s_is_between, defScope s_is_between, [], []⟩
def dd_check_length : He.DefD := ⟨("check_length", none), "check_length", "check_length", defArgs s_check_length, defBody s_check_length, defScope s_check_length, [], []⟩
def dd_check_base : He.DefD := ⟨("check_base", none), "check_base", "check_base", defArgs s_check_base, defBody s_check_base, defScope s_check_base, [], []⟩
def dd_figures_of : He.DefD := ⟨("figures_of", none), "figures_of", "figures_of", defArgs s_figures_of, defBody s_figures_of, defScope s_figures_of, [], []⟩
def dd_total_of : He.DefD := ⟨("total_of", none), "total_of", "total_of", defArgs s_total_of, defBody s_total_of, defScope s_total_of, [], []⟩
def dd_check_constant : He.DefD := ⟨("check_constant", none), "check_constant", "check_constant", defArgs s_check_constant, defBody s_check_constant, defScope s_check_constant, [], []⟩
def dd_totals : He.DefD := ⟨("totals", none), "totals", "totals", defArgs s_totals, defBody s_totals, defScope s_totals, [], []⟩
def dd_doubled : He.DefD := ⟨("doubled", none), "doubled", "doubled", defArgs s_doubled, defBody s_doubled, defScope s_doubled, [], []⟩
def dd_L_cell : He.DefD := ⟨("_law_cell", none), "_law_cell", "_law_cell", defArgs s_L_cell, defBody s_L_cell, defScope s_L_cell, [], []⟩
def dd_L_purse : He.DefD := ⟨("_law_purse", none), "_law_purse", "_law_purse", defArgs s_L_purse, defBody s_L_purse, defScope s_L_purse, [], []⟩
def dd_L_take : He.DefD := ⟨("_law_take", none), "_law_take", "_law_take", defArgs s_L_take, defBody s_L_take, defScope s_L_take, [], []⟩
def dd_L_radix : He.DefD := ⟨("_law_radix", none), "_law_radix", "_law_radix", defArgs s_L_radix, defBody s_L_radix, defScope s_L_radix, [], []⟩
def dd_L_extra : He.DefD := ⟨("_law_extra", none), "_law_extra", "_law_extra", defArgs s_L_extra, defBody s_L_extra, defScope s_L_extra, [], []⟩
def dd_L_error : He.DefD := ⟨("_law_error", none), "_law_error", "_law_error", defArgs s_L_error, defBody s_L_error, defScope s_L_error, [], []⟩
def dd_L_caught : He.DefD := ⟨("_law_caught", none), "_law_caught", "_law_caught", defArgs s_L_caught, defBody s_L_caught, defScope s_L_caught, [], []⟩
def dd_L_all : He.DefD := ⟨("_law_all", none), "_law_all", "_law_all", defArgs s_L_all, defBody s_L_all, defScope s_L_all, [], []⟩
def dd_L_beside : He.DefD := ⟨("_law_beside", none), "_law_beside", "_law_beside", defArgs s_L_beside, defBody s_L_beside, defScope s_L_beside, [], []⟩
def dd_L_right : He.DefD := ⟨("_law_right", none), "_law_right", "_law_right", defArgs s_L_right, defBody s_L_right, defScope s_L_right, [], []⟩
def dd_law : He.DefD := ⟨("law", none), "law", "law", defArgs s_law, defBody s_law, defScope s_law, [], []⟩
def dd_InvalidNumber___init__ : He.DefD := ⟨("InvalidNumber", some "__init__"), "__init__", "InvalidNumber.__init__", defArgs s_InvalidNumber___init__, defBody s_InvalidNumber___init__, defScope s_InvalidNumber___init__, [], []⟩
def dd_TooLong___init__ : He.DefD := ⟨("TooLong", some "__init__"), "__init__", "TooLong.__init__", defArgs s_TooLong___init__, defBody s_TooLong___init__, defScope s_TooLong___init__, [], []⟩
def fnL : List He.DefD := [dd_is_integer, dd_is_between, dd_check_length, dd_check_base, dd_figures_of, dd_total_of, dd_check_constant, dd_totals, dd_doubled, dd_L_cell, dd_L_purse, dd_L_take, dd_L_radix, dd_L_extra, dd_L_error, dd_L_caught, dd_L_all, dd_L_beside, dd_L_right, dd_law, dd_InvalidNumber___init__, dd_TooLong___init__]
def faL : List He.Fa := [.glo "is_integer", .glo "is_between", .glo "check_length", .glo "check_base", .glo "figures_of", .glo "total_of", .glo "check_constant", .glo "totals", .glo "doubled", .glo "_law_cell", .glo "_law_purse", .glo "_law_take", .glo "_law_radix", .glo "_law_extra", .glo "_law_error", .glo "_law_caught", .glo "_law_all", .glo "_law_beside", .glo "_law_right", .glo "law", .free "ArithmeticError", .free "LookupError", .free "ValueError", .free "abs", .free "all", .free "divmod", .free "int", .free "isinstance", .free "len", .free "max", .free "min", .free "range", .free "repr", .free "tuple", .int "MOST_LENGTH" 1000000000000000000000000000000000000000000000000000000000000, .int "MOST_CONSTANT" 1000, .int "LEAST_BASE" 2, .int "MOST_BASE" 256, .glo "InvalidNumber", .glo "TooLong", .glo "NotAWrap", .glo "NotAStack", .glo "NotARoad", .glo "InvalidKind", .glo "InvalidBase", .glo "InvalidLength", .glo "InvalidText", .glo "InvalidRow", .glo "InvalidNumbers", .glo "InvalidWraps", .glo "InvalidSeen", .glo "InvalidDeeds", .glo "NothingToPop", .glo "NothingToUndo", .glo "Busy", .glo "TooFine", .glo "TooManyWraps", .glo "Misfit", .glo "Untimely", .glo "Excess"]
def loose0 : List Str := ["is_integer", "is_between", "check_length", "check_base", "figures_of", "total_of", "check_constant", "totals", "doubled", "_law_cell", "_law_purse", "_law_take", "_law_radix", "_law_extra", "_law_error", "_law_caught", "_law_all", "_law_beside", "_law_right", "Misfit", "Untimely", "Excess", "NotAWrap", "NotAStack", "NotARoad", "InvalidKind", "InvalidBase", "InvalidLength", "InvalidNumber", "InvalidText"]
def loose1 : List Str := ["InvalidRow", "InvalidNumbers", "InvalidWraps", "InvalidSeen", "InvalidDeeds", "NothingToPop", "NothingToUndo", "Busy", "TooFine", "TooManyWraps", "TooLong", "MOST_LENGTH", "MOST_CONSTANT", "LEAST_BASE", "MOST_BASE"]
def looseL : List Str := loose0 ++ loose1
abbrev RR : PySem.W.OpenRow := PySem.W.OpenLaw.row PySem.Challenge.rw_sizestacks_k65_whole_all_that_have_two
def tabL : List He.Tab := []
def fbL (K : PySem.W.Frag) : Bool := [errCB K 0 (He.ga K "InvalidNumber") "value", errCB K 2 (He.ga K "TooLong") "limit", (List.range 19).all (etabB K)].all id
abbrev hk : PySem.W.Hook := hookU 5 fbL faL fnL tabL tfL
def ob (z : PySem.W.SharedT) : Bool × AlX := obsUG 5 fbL faL fnL tabL tfL (HandSHeadRun.getT z)
theorem ob_eq (z : PySem.W.SharedT) : ob z = hk.obs z.abs := obsUG_eq (HandSHeadRun.getT_eq z)
theorem run (w : World) : HandSHeadRun.RunEq RR (PySem.W.view RR.prog [50]) hk ob 30000 looseL w := by
  intro os
  kernel_rfl
theorem tx_of {w : World} {K : PySem.W.Frag} {h : Heap} {mg : Str → Option Value} (X : K.In h) (G : h.Ns mainGlobals mg) (c0 : SaysX fbL faL fnL tabL w K) : Tx K mg := by
  have c : He.SaysD faL fnL K := c0.t.d
  exact {
    d_is_integer := let ⟨fd, F⟩ := c.def_ 0 (d := dd_is_integer) rfl; ⟨_, fd, F, He.glo_ok X G (c.fact 0 (f := .glo "is_integer") rfl)⟩,
    d_is_between := let ⟨fd, F⟩ := c.def_ 1 (d := dd_is_between) rfl; ⟨_, fd, F, He.glo_ok X G (c.fact 1 (f := .glo "is_between") rfl)⟩,
    d_check_length := let ⟨fd, F⟩ := c.def_ 2 (d := dd_check_length) rfl; ⟨_, fd, F, He.glo_ok X G (c.fact 2 (f := .glo "check_length") rfl)⟩,
    d_check_base := let ⟨fd, F⟩ := c.def_ 3 (d := dd_check_base) rfl; ⟨_, fd, F, He.glo_ok X G (c.fact 3 (f := .glo "check_base") rfl)⟩,
    d_figures_of := let ⟨fd, F⟩ := c.def_ 4 (d := dd_figures_of) rfl; ⟨_, fd, F, He.glo_ok X G (c.fact 4 (f := .glo "figures_of") rfl)⟩,
    d_total_of := let ⟨fd, F⟩ := c.def_ 5 (d := dd_total_of) rfl; ⟨_, fd, F, He.glo_ok X G (c.fact 5 (f := .glo "total_of") rfl)⟩,
    d_check_constant := let ⟨fd, F⟩ := c.def_ 6 (d := dd_check_constant) rfl; ⟨_, fd, F, He.glo_ok X G (c.fact 6 (f := .glo "check_constant") rfl)⟩,
    d_totals := let ⟨fd, F⟩ := c.def_ 7 (d := dd_totals) rfl; ⟨_, fd, F, He.glo_ok X G (c.fact 7 (f := .glo "totals") rfl)⟩,
    d_doubled := let ⟨fd, F⟩ := c.def_ 8 (d := dd_doubled) rfl; ⟨_, fd, F, He.glo_ok X G (c.fact 8 (f := .glo "doubled") rfl)⟩,
    d_L_cell := let ⟨fd, F⟩ := c.def_ 9 (d := dd_L_cell) rfl; ⟨_, fd, F, He.glo_ok X G (c.fact 9 (f := .glo "_law_cell") rfl)⟩,
    d_L_purse := let ⟨fd, F⟩ := c.def_ 10 (d := dd_L_purse) rfl; ⟨_, fd, F, He.glo_ok X G (c.fact 10 (f := .glo "_law_purse") rfl)⟩,
    d_L_take := let ⟨fd, F⟩ := c.def_ 11 (d := dd_L_take) rfl; ⟨_, fd, F, He.glo_ok X G (c.fact 11 (f := .glo "_law_take") rfl)⟩,
    d_L_radix := let ⟨fd, F⟩ := c.def_ 12 (d := dd_L_radix) rfl; ⟨_, fd, F, He.glo_ok X G (c.fact 12 (f := .glo "_law_radix") rfl)⟩,
    d_L_extra := let ⟨fd, F⟩ := c.def_ 13 (d := dd_L_extra) rfl; ⟨_, fd, F, He.glo_ok X G (c.fact 13 (f := .glo "_law_extra") rfl)⟩,
    d_L_error := let ⟨fd, F⟩ := c.def_ 14 (d := dd_L_error) rfl; ⟨_, fd, F, He.glo_ok X G (c.fact 14 (f := .glo "_law_error") rfl)⟩,
    d_L_caught := let ⟨fd, F⟩ := c.def_ 15 (d := dd_L_caught) rfl; ⟨_, fd, F, He.glo_ok X G (c.fact 15 (f := .glo "_law_caught") rfl)⟩,
    d_L_all := let ⟨fd, F⟩ := c.def_ 16 (d := dd_L_all) rfl; ⟨_, fd, F, He.glo_ok X G (c.fact 16 (f := .glo "_law_all") rfl)⟩,
    d_L_beside := let ⟨fd, F⟩ := c.def_ 17 (d := dd_L_beside) rfl; ⟨_, fd, F, He.glo_ok X G (c.fact 17 (f := .glo "_law_beside") rfl)⟩,
    d_L_right := let ⟨fd, F⟩ := c.def_ 18 (d := dd_L_right) rfl; ⟨_, fd, F, He.glo_ok X G (c.fact 18 (f := .glo "_law_right") rfl)⟩,
    d_law := let ⟨fd, F⟩ := c.def_ 19 (d := dd_law) rfl; ⟨_, fd, F, He.glo_ok X G (c.fact 19 (f := .glo "law") rfl)⟩,
    b_ArithmeticError := He.free_ok X G (c.fact 20 (f := .free "ArithmeticError") rfl),
    b_LookupError := He.free_ok X G (c.fact 21 (f := .free "LookupError") rfl),
    b_ValueError := He.free_ok X G (c.fact 22 (f := .free "ValueError") rfl),
    b_abs := He.free_ok X G (c.fact 23 (f := .free "abs") rfl),
    b_all := He.free_ok X G (c.fact 24 (f := .free "all") rfl),
    b_divmod := He.free_ok X G (c.fact 25 (f := .free "divmod") rfl),
    b_int := He.free_ok X G (c.fact 26 (f := .free "int") rfl),
    b_isinstance := He.free_ok X G (c.fact 27 (f := .free "isinstance") rfl),
    b_len := He.free_ok X G (c.fact 28 (f := .free "len") rfl),
    b_max := He.free_ok X G (c.fact 29 (f := .free "max") rfl),
    b_min := He.free_ok X G (c.fact 30 (f := .free "min") rfl),
    b_range := He.free_ok X G (c.fact 31 (f := .free "range") rfl),
    b_repr := He.free_ok X G (c.fact 32 (f := .free "repr") rfl),
    b_tuple := He.free_ok X G (c.fact 33 (f := .free "tuple") rfl),
    c_MOST_LENGTH := He.int_ok X G (c.fact 34 (f := .int "MOST_LENGTH" 1000000000000000000000000000000000000000000000000000000000000) rfl),
    c_MOST_CONSTANT := He.int_ok X G (c.fact 35 (f := .int "MOST_CONSTANT" 1000) rfl),
    c_LEAST_BASE := He.int_ok X G (c.fact 36 (f := .int "LEAST_BASE" 2) rfl),
    c_MOST_BASE := He.int_ok X G (c.fact 37 (f := .int "MOST_BASE" 256) rfl),
    k_InvalidNumber := He.glo_ok X G (c.fact 38 (f := .glo "InvalidNumber") rfl),
    k_TooLong := He.glo_ok X G (c.fact 39 (f := .glo "TooLong") rfl),
    k_NotAWrap := He.glo_ok X G (c.fact 40 (f := .glo "NotAWrap") rfl),
    k_NotAStack := He.glo_ok X G (c.fact 41 (f := .glo "NotAStack") rfl),
    k_NotARoad := He.glo_ok X G (c.fact 42 (f := .glo "NotARoad") rfl),
    k_InvalidKind := He.glo_ok X G (c.fact 43 (f := .glo "InvalidKind") rfl),
    k_InvalidBase := He.glo_ok X G (c.fact 44 (f := .glo "InvalidBase") rfl),
    k_InvalidLength := He.glo_ok X G (c.fact 45 (f := .glo "InvalidLength") rfl),
    k_InvalidText := He.glo_ok X G (c.fact 46 (f := .glo "InvalidText") rfl),
    k_InvalidRow := He.glo_ok X G (c.fact 47 (f := .glo "InvalidRow") rfl),
    k_InvalidNumbers := He.glo_ok X G (c.fact 48 (f := .glo "InvalidNumbers") rfl),
    k_InvalidWraps := He.glo_ok X G (c.fact 49 (f := .glo "InvalidWraps") rfl),
    k_InvalidSeen := He.glo_ok X G (c.fact 50 (f := .glo "InvalidSeen") rfl),
    k_InvalidDeeds := He.glo_ok X G (c.fact 51 (f := .glo "InvalidDeeds") rfl),
    k_NothingToPop := He.glo_ok X G (c.fact 52 (f := .glo "NothingToPop") rfl),
    k_NothingToUndo := He.glo_ok X G (c.fact 53 (f := .glo "NothingToUndo") rfl),
    k_Busy := He.glo_ok X G (c.fact 54 (f := .glo "Busy") rfl),
    k_TooFine := He.glo_ok X G (c.fact 55 (f := .glo "TooFine") rfl),
    k_TooManyWraps := He.glo_ok X G (c.fact 56 (f := .glo "TooManyWraps") rfl),
    k_Misfit := He.glo_ok X G (c.fact 57 (f := .glo "Misfit") rfl),
    k_Untimely := He.glo_ok X G (c.fact 58 (f := .glo "Untimely") rfl),
    k_Excess := He.glo_ok X G (c.fact 59 (f := .glo "Excess") rfl),
    dt_L_right := let ⟨fd, F⟩ := c.def_ 18 (d := dd_L_right) rfl; ⟨fd, F, He.glo_ok X G (c.fact 18 (f := .glo "_law_right") rfl)⟩,
    dm_InvalidNumber___init__ := c.def_ 20 (d := dd_InvalidNumber___init__) rfl,
    dm_TooLong___init__ := c.def_ 21 (d := dd_TooLong___init__) rfl,
    er_InvalidNumber := errCB_ok (List.all_eq_true.mp c0.b _ (.head _)),
    er_TooLong := errCB_ok (List.all_eq_true.mp c0.b _ (.tail _ (.head _))),
    et := etab_ok (List.all_eq_true.mp c0.b _ (.tail _ (.tail _ (.head _)))) }
def spLaw (K : PySem.W.Frag) : Sp := fun vs H Q _ => ∃ (a : Addr) (ns : List Int), vs = [.ref a] ∧ SqL K H a (ns.map V.int) ∧ ns.length ≤ 63 ∧ (∀ z ∈ ns, Builtin.Int.intBits z ≤ 1048576) ∧ LamX.Tabs (tabsOf K) H ∧ ∀ H', Q (.bl true) H'

/-! ### errors that leave -/
/-- an error of the class C leaves, with v in its field f -/
def Fails (K : PySem.W.Frag) (H : Hp) (E : XK) (C f : Str) (v : V) : Prop := ∀ d, H d = none → E (.ref (He.ga K C)) (some d) (upd H d (.xd [(f, v)]))
/-! ### heaps and slots -/
theorem same_up {H : Hp} {p : Addr} {o : HO} (hp : H p = none) : Same H (upd H p o) := fun x o e => by
  rw [upd_ne (ne_of_none e hp)]
  exact e
theorem gn {i : Nat} {x : V} {σ : L2.St} {H : Hp} {k : L2.St → Hp → Prop} (h : k (σ.set i (some x)) H) : gName i x σ H k := h
theorem st_eq {F : L2.St → Hp → Prop} {σ : L2.St} {H : Hp} (σ' : L2.St) (e : σ = σ') (k : F σ' H) : F σ H := e ▸ k
theorem hp_eq {F : L2.St → Hp → Prop} {σ : L2.St} {H : Hp} (H2 : Hp) (e : H = H2) (k : F σ H2) : F σ H := e ▸ k
theorem up {H' : Hp} {z : Addr} {o : HO} (hz : H' z = none) : Same H' (upd H' z o) := same_up hz
theorem hp_new {F : L2.St → Hp → Prop} {σ : L2.St} {H : Hp} {w : Addr} {o : HO} (h : H w = none) (k : ∀ G, Same H G → G w = some o → F σ G) : F σ (upd H w o) := k _ (up h) upd_same
theorem hp_new2 {F : L2.St → Hp → Prop} {σ : L2.St} {H : Hp} {w w2 : Addr} {o o2 : HO} (h2 : H w2 = none) (h : upd H w2 o2 w = none) (k : ∀ G, Same H G → G w = some o → F σ G) : F σ (upd (upd H w2 o2) w o) := k _ (fun _ _ e => up h _ _ (up h2 _ _ e)) upd_same
/-! ### what a number is (for numbers alone) -/
def spIsInt : Sp := fun vs H Q _ => ∃ i : Int, vs = [.int i] ∧ Q (.bl true) H
def spBetween : Sp := fun vs H Q _ => ∃ v l m : Int, vs = [.int v, .int l, .int m] ∧ Q (.bl (decide (l ≤ v ∧ v ≤ m))) H
def spLength : Sp := fun vs H Q _ => ∃ n : Int, vs = [.int n] ∧ 0 ≤ n ∧ n ≤ 10 ^ 60 - 1 ∧ Q .non H
def spBase : Sp := fun vs H Q _ => ∃ n : Int, vs = [.int n] ∧ 2 ≤ n ∧ n ≤ 256 ∧ Q .non H
def spFig : Sp := fun vs H Q _ => ∃ n b : Int, vs = [.int n, .int b] ∧ 2 ≤ b ∧ b ≤ 256 ∧ n < 2 ^ 4000 ∧ ∀ k, IsF b n k → Q (.int k) H
section
variable {P : Program} {w : World} {K : PySem.W.Frag} {mg : Str → Option Value} {base : Heap}
theorem ok_is_integer (T : Tx K mg) : Prom P w K mg base CX0 1 "is_integer" s_is_integer ["value"] spIsInt := by
  refine Prom.of T.d_is_integer sc_is_integer (fun vs H Q E h => ?_) (fun _ _ _ _ _ _ us hl => match us, hl with | [_], _ => rfl) (fun f cdv A outer s H vs Q E hr h => ?_)
  · obtain ⟨i, rfl, _⟩ := h
    rfl
  · obtain ⟨i, rfl, k⟩ := h
    refine ⟨_, (pss_one (ps_ret (pe_and (pe_callB call_isi (by rfl) T.b_isinstance (by decide +kernel) (pa_cons (pv 0) (pa_cons (pe_bltn (v := .ty "int") (by rfl) T.b_int (by decide +kernel) rfl) pa_nil))) (pe_and (pe_cmpR op_isnotBl (pv 0) pe_bl (nomark _)) (pe_one (pe_cmpR op_isnotBl (pv 0) pe_bl (nomark _))))))), ?_⟩
    refine ⟨_, rfl, _, _, _, _, true, rfl, .ty _, .base (.int _), kit_ty (by decide +kernel), true, rfl, iteT ?_⟩
    refine ⟨_, rfl, _, rfl, true, rfl, iteT ?_⟩
    exact ⟨_, rfl, _, rfl, k⟩
theorem ok_is_between (T : Tx K mg) : Prom P w K mg base CX0 2 "is_between" s_is_between ["value", "least", "most"] spBetween := by
  refine Prom.of T.d_is_between sc_is_between (fun vs H Q E h => ?_) (fun _ _ _ _ _ _ us hl => match us, hl with | [_, _, _], _ => rfl) (fun f cdv A outer s H vs Q E hr h => ?_)
  · obtain ⟨v, l, m, rfl, _⟩ := h
    rfl
  · obtain ⟨v, l, m, rfl, k⟩ := h
    refine ⟨_, (pss_one (ps_ret (pe_and (pe_callP (ok_is_integer T) (hr.mono (by decide)) (by rfl) pass0 (pa_cons (pv 0) pa_nil)) (pe_one (pe_chain op_le op_le (pv 1) (pv 0) (pv 2)))))), ?_⟩
    refine ⟨_, rfl, v, rfl, true, rfl, iteT ?_⟩
    refine ⟨_, rfl, _, rfl, _, _, rfl, rfl, _, rfl, ifd (fun h1 => ?_) (fun h1 => ?_)⟩
    · refine ⟨_, rfl, _, _, rfl, rfl, ?_⟩
      show Q (.bl (decide (v ≤ m))) H
      have e : decide (v ≤ m) = decide (l ≤ v ∧ v ≤ m) := by simp [h1]
      rw [e]
      exact k
    · show Q (.bl false) H
      have e : false = decide (l ≤ v ∧ v ≤ m) := by simp [h1]
      rw [e]
      exact k
end
section
variable {P : Program} {w : World} {K : PySem.W.Frag} {mg : Str → Option Value} {base : Heap}
theorem ok_check_length (T : Tx K mg) : Prom P w K mg base CX0 3 "check_length" s_check_length ["value"] spLength := by
  refine Prom.of T.d_check_length sc_check_length (fun vs H Q E h => ?_) (fun _ _ _ _ _ _ us hl => match us, hl with | [_], _ => rfl) (fun f cdv A outer s H vs Q E hr h => ?_)
  · obtain ⟨i, rfl, _⟩ := h
    rfl
  · obtain ⟨i, rfl, h0, h1, k⟩ := h
    refine ⟨_, (pss_one (ps_if (pt_not (pt_val (pe_callP (ok_is_between T) (hr.mono (by decide)) (by rfl) pass0 (pa_cons (pv 0) (pa_cons pe_int (pa_cons (pe_op op_sub (pe_gint T.c_MOST_LENGTH) pe_int) pa_nil)))))) (pss_one ps_never) pss_nil)), ?_⟩
    refine ⟨_, rfl, _, _, rfl, rfl, _, _, _, rfl, _, rfl, ?_⟩
    exact ifn (fun c => absurd (show (0 : Int) ≤ i ∧ i ≤ _ from ⟨h0, by omega⟩) c) (fun _ => k)
end
section
variable {P : Program} {w : World} {K : PySem.W.Frag} {mg : Str → Option Value} {base : Heap}
theorem ok_check_base (T : Tx K mg) : Prom P w K mg base CX0 3 "check_base" s_check_base ["value"] spBase := by
  refine Prom.of T.d_check_base sc_check_base (fun vs H Q E h => ?_) (fun _ _ _ _ _ _ us hl => match us, hl with | [_], _ => rfl) (fun f cdv A outer s H vs Q E hr h => ?_)
  · obtain ⟨i, rfl, _⟩ := h
    rfl
  · obtain ⟨i, rfl, h0, h1, k⟩ := h
    refine ⟨_, (pss_one (ps_if (pt_not (pt_val (pe_callP (ok_is_between T) (hr.mono (by decide)) (by rfl) pass0 (pa_cons (pv 0) (pa_cons (pe_gint T.c_LEAST_BASE) (pa_cons (pe_gint T.c_MOST_BASE) pa_nil)))))) (pss_one ps_never) pss_nil)), ?_⟩
    refine ⟨_, rfl, _, _, _, rfl, _, rfl, ?_⟩
    exact ifn (fun c => absurd (show (2 : Int) ≤ i ∧ i ≤ 256 from ⟨h0, h1⟩) c) (fun _ => k)
end
section
variable {P : Program} {w : World} {K : PySem.W.Frag} {mg : Str → Option Value} {base : Heap}
theorem fig_mul {b p e n : Int} {j : Nat} (hb : 2 ≤ b) (hb2 : b ≤ 256) (hn : n < 2 ^ 4000) (hp : p = b ^ (j + 1)) (hj : j = 0 ∨ b ^ j ≤ n) (he : e = b ^ 8) : CMulW p e := by
  have b8 : b ^ 8 ≤ 256 ^ 8 := by
    have g : ∀ m : Nat, b ^ m ≤ 256 ^ m := fun m => by
      induction m with
      | zero => rw [Int.pow_zero, Int.pow_zero]; exact Int.le_refl _
      | succ m ih =>
        rw [Int.pow_succ, Int.pow_succ]
        exact Int.mul_le_mul ih hb2 (by omega) (Int.le_of_lt (Int.lt_of_lt_of_le (by decide) (pow_pos (show (1 : Int) ≤ 256 by decide) m)))
    exact g 8
  have p1 := pow_pos (show 1 ≤ b by omega) (j + 1)
  have p8 := pow_pos (show 1 ≤ b by omega) 8
  have hq : b ^ j ≤ 2 ^ 4000 := by
    rcases hj with h | h
    · rw [h, Int.pow_zero]
      exact pow_pos (by decide) 4000
    · omega
  have pj := pow_pos (show 1 ≤ b by omega) j
  have hp2 : p ≤ 2 ^ 4000 * 256 := by
    rw [hp, Int.pow_succ]
    exact Int.mul_le_mul hq hb2 (by omega) (Int.le_of_lt (Int.lt_of_lt_of_le (by decide) (pow_pos (show (1 : Int) ≤ 2 by decide) 4000)))
  refine wide_mul (a := 4009) (b := 65) ?_ ?_ (by decide) (by decide) (by decide)
  · have h1 : p < 2 ^ 4009 := Int.lt_of_le_of_lt hp2 (by decide)
    have h2 : ((p.natAbs : Nat) : Int) < ((2 ^ 4009 : Nat) : Int) := by
      rw [Int.natCast_pow]
      have e : ((2 : Nat) : Int) = 2 := rfl
      rw [e]
      omega
    exact Int.ofNat_lt.mp h2
  · have h1 : e < 2 ^ 65 := by
      rw [he]
      exact Int.lt_of_le_of_lt b8 (by decide)
    have h2 : ((e.natAbs : Nat) : Int) < ((2 ^ 65 : Nat) : Int) := by
      rw [Int.natCast_pow]
      have e : ((2 : Nat) : Int) = 2 := rfl
      rw [e]
      omega
    exact Int.ofNat_lt.mp h2
theorem ok_figures_of (T : Tx K mg) : Prom P w K mg base CX0 1 "figures_of" s_figures_of ["length", "base"] spFig := by
  refine Prom.of T.d_figures_of sc_figures_of (fun vs H Q E h => ?_) (fun _ _ _ _ _ _ us hl => match us, hl with | [_, _], _ => rfl) (fun f cdv A outer s H vs Q E hr h => ?_)
  · obtain ⟨n, b, rfl, _⟩ := h
    rfl
  · obtain ⟨n, b, rfl, hb, hb2, hn, k⟩ := h
    refine ⟨_, (pss_cons (ps_par3 (i := 2) (j := 3) (l := 4) (by rfl) sc_figures_of.nd rfl rfl rfl (by decide) (by decide) (by decide) rfl rfl rfl (pa_cons pe_int (pa_cons (pv 1) (pa_cons pe_int pa_nil))) (by rfl))
      (pss_cons (ps_for PassesOwn.never (by rfl) (pi_range1 (by rfl) T.b_range (pa_cons pe_int pa_nil)) (pg_name (i := 5) sc_figures_of.nd rfl (Or.inl rfl)) (pss_one (ps_set (i := 4) sc_figures_of.nd rfl (Or.inl rfl) (pe_op op_mul (pv 4) (pv 1)))))
      (pss_cons (ps_while PassesOwn.never (pt_cmp (pc_le (pe_op op_mulW (pv 3) (pv 4)) (pv 0))) (pss_one (ps_par (i := 2) (j := 3) (by rfl) sc_figures_of.nd rfl rfl (by decide) rfl rfl (pa_cons (pe_op op_add (pv 2) pe_int) (pa_cons (pe_op op_mulW (pv 3) (pv 4)) pa_nil)) (by rfl))))
      (pss_cons (ps_while PassesOwn.never (pt_cmp (pc_le (pv 3) (pv 0))) (pss_one (ps_par (i := 2) (j := 3) (by rfl) sc_figures_of.nd rfl rfl (by decide) rfl rfl (pa_cons (pe_op op_add (pv 2) pe_int) (pa_cons (pe_op op_mul (pv 3) (pv 1)) pa_nil)) (by rfl))))
      (pss_one (ps_ret (pv 2))))))), ?_⟩
    -- count, power, eight = 1, base, 1
    refine ⟨_, rfl, _, _, _, rfl, ?_⟩
    -- for turn in range(8)
    refine ⟨8, rfl, by decide, by decide, for_range (lo := 0) (n := 8) (fun i σ H' => H' = H ∧ ∃ v, σ = [some (.int n), some (.int b), some (.int 1), some (.int b), some (.int (b ^ i)), v]) ⟨rfl, none, by rw [Int.pow_zero]; rfl⟩ ?_ ?_⟩
    · rintro i σ H' hi ⟨rfl, v, rfl⟩
      refine ⟨_, rfl, _, rfl, _, _, rfl, rfl, .inr ⟨by omega, by omega⟩, ?_⟩
      exact ⟨rfl, some (.int (0 + (i : Int))), by rw [Int.pow_succ]; rfl⟩
    · rintro σ H' ⟨rfl, v, rfl⟩
      -- while power * eight <= length
      refine ⟨fun m σ H1 => H1 = H' ∧ ∃ (j : Nat), σ = [some (.int n), some (.int b), some (.int ((j : Int) + 1)), some (.int (b ^ (j + 1))), some (.int (b ^ 8)), v] ∧ (j = 0 ∨ b ^ j ≤ n) ∧ m = (n + 1 - b ^ (j + 1)).toNat,
        ⟨_, rfl, 0, by rw [pow_one b]; rfl, .inl rfl, rfl⟩, ?_⟩
      rintro m σ H1 ⟨rfl, j, rfl, hj, hm⟩
      have p1 := pow_pos (show 1 ≤ b by omega) (j + 1)
      refine ⟨_, rfl, _, rfl, _, _, rfl, rfl, fig_mul hb hb2 hn rfl hj rfl, ?_⟩
      refine ⟨_, rfl, _, _, rfl, rfl, _, rfl, ifd (fun c => ?_) (fun c => ?_)⟩
      · refine ⟨_, fun σ' H' h => h, ?_⟩
        have e9 : b ^ (j + 1) * b ^ 8 = b ^ (j + 8 + 1) := by rw [← Int.pow_add]
        have e8 : b ^ (j + 1) < b ^ (j + 8 + 1) := Int.lt_of_lt_of_le (pow_lt hb (j + 1)) (pow_mono (show 1 ≤ b by omega) (by omega))
        refine ⟨_, rfl, _, _, rfl, rfl, _, rfl, _, rfl, _, _, rfl, rfl, fig_mul hb hb2 hn rfl hj rfl, _, _, rfl, ?_⟩
        refine ⟨_, ?_, rfl, j + 8, ?_, .inr ?_, rfl⟩
        · rw [hm]
          rw [e9] at c
          omega
        · show [some (V.int n), some (V.int b), some (V.int ((j : Int) + 1 + 8)), some (V.int (b ^ (j + 1) * b ^ 8)), some (V.int (b ^ 8)), v] = _
          rw [e9]
          have e : (j : Int) + 1 + 8 = ((j + 8 : Nat) : Int) + 1 := by omega
          rw [e]
        · rw [e9] at c
          exact Int.le_trans (pow_mono (show 1 ≤ b by omega) (by omega)) c
      · -- while power <= length
        refine ⟨fun m σ H2 => H2 = H1 ∧ ∃ (j : Nat), σ = [some (.int n), some (.int b), some (.int ((j : Int) + 1)), some (.int (b ^ (j + 1))), some (.int (b ^ 8)), v] ∧ (j = 0 ∨ b ^ j ≤ n) ∧ m = (n + 1 - b ^ (j + 1)).toNat,
          ⟨_, rfl, j, rfl, hj, rfl⟩, ?_⟩
        clear c hm p1 hj
        rintro m σ H2 ⟨rfl, j, rfl, hj, hm⟩
        have p1 := pow_pos (show 1 ≤ b by omega) (j + 1)
        refine ⟨_, rfl, _, rfl, _, _, rfl, rfl, _, rfl, ifd (fun c => ?_) (fun c => ?_)⟩
        · refine ⟨_, fun σ' H' h => h, ?_⟩
          have e8 := pow_lt hb (j + 1)
          refine ⟨_, rfl, _, _, rfl, rfl, _, rfl, _, rfl, _, _, rfl, rfl, .inr ⟨by omega, by omega⟩, _, _, rfl, ?_⟩
          refine ⟨_, ?_, rfl, j + 1, ?_, .inr c, rfl⟩
          · rw [hm]
            omega
          · show [some (V.int n), some (V.int b), some (V.int ((j : Int) + 1 + 1)), some (V.int (b ^ (j + 1) * b)), some (V.int (b ^ 8)), v] = _
            rw [← Int.pow_succ]
            have e : (j : Int) + 1 + 1 = ((j + 1 : Nat) : Int) + 1 := by omega
            rw [e]
        · exact ⟨_, rfl, k _ ⟨j, rfl, by omega, hj⟩⟩
end
section
variable {P : Program} {w : World} {K : PySem.W.Frag} {mg : Str → Option Value} {base : Heap}
def spTotal : Sp := fun vs H Q _ => ∃ n b : Int, vs = [.int n, .int b] ∧ 2 ≤ b ∧ b ≤ 256 ∧ 0 ≤ n ∧ n < 2 ^ 3900 ∧ ∀ s, IsTot b n s → s ≤ n + 4000 → Q (.int s) H
theorem ok_total_of (T : Tx K mg) : Prom P w K mg base CX0 2 "total_of" s_total_of ["length", "base"] spTotal := by
  refine Prom.of T.d_total_of sc_total_of (fun vs H Q E h => ?_) (fun _ _ _ _ _ _ us hl => match us, hl with | [_, _], _ => rfl) (fun f cdv A outer s H vs Q E hr h => ?_)
  · obtain ⟨n, b, rfl, _⟩ := h
    rfl
  · obtain ⟨n, b, rfl, b0, b1, n0, n1, k⟩ := h
    have big : ∀ x : Int, x ≤ n + 4000 → x < 2 ^ 4000 := fun x hx => by
      have : (2 : Int) ^ 3900 + 4000 ≤ 2 ^ 4000 := by decide
      omega
    refine ⟨_, (pss_cons (ps_set (i := 2) sc_total_of.nd rfl (Or.inl rfl) (pe_callP (ok_figures_of T) (hr.mono (by decide)) (by rfl) pass0 (pa_cons (pv 0) (pa_cons (pv 1) pa_nil))))
      (pss_cons (ps_while PassesOwn.never (pt_cmp (pc_neI (pe_callP (ok_figures_of T) (hr.mono (by decide)) (by rfl) pass0 (pa_cons (pe_op op_add (pv 0) (pv 2)) (pa_cons (pv 1) pa_nil))) (pv 2))) (pss_one (ps_aug (i := 2) sc_total_of.nd rfl (.inl rfl) pe_int ip_add)))
      (pss_one (ps_ret (pe_op op_add (pv 0) (pv 2)))))), ?_⟩
    refine ⟨_, rfl, _, rfl, n, b, rfl, b0, b1, big n (by omega), fun z hz => ?_⟩
    have z0 := isF_pos hz
    have z1 := isF_bound b0 3900 n1 hz
    refine ⟨fun m σ H1 => H1 = H ∧ ((m = 1 ∧ σ = [some (.int n), some (.int b), some (.int z)]) ∨ (m = 0 ∧ σ = [some (.int n), some (.int b), some (.int (z + 1))] ∧ IsF b (n + z) (z + 1))), ⟨1, rfl, .inl ⟨rfl, rfl⟩⟩, ?_⟩
    rintro m σ H1 ⟨rfl, ⟨rfl, rfl⟩ | ⟨rfl, rfl, h1⟩⟩
    · refine ⟨_, rfl, _, rfl, _, _, rfl, rfl, _, rfl, n + z, b, rfl, b0, b1, big _ (by omega), fun g hg => ?_⟩
      refine ⟨_, rfl, _, _, rfl, rfl, _, rfl, ifn (fun c => ?_) (fun c => ?_)⟩
      · have e : g = z + 1 := (fig_grow b0 n0 hz hg).resolve_left c
        subst e
        exact ⟨_, fun _ _ h => h, _, rfl, _, _, rfl, rfl, 0, by decide, rfl, .inr ⟨rfl, rfl, hg⟩⟩
      · subst c
        exact ⟨_, rfl, _, rfl, _, _, rfl, rfl, k _ (isTot_first b0 hz hg) (by omega)⟩
    · refine ⟨_, rfl, _, rfl, _, _, rfl, rfl, _, rfl, n + (z + 1), b, rfl, b0, b1, big _ (by omega), fun g hg => ?_⟩
      have h2 := fig_next b0 n0 hz h1
      have e0 : n + (z + 1) = n + z + 1 := by omega
      rw [e0] at hg
      have e : g = z + 1 := isF_eq b0 hg h2
      refine ⟨_, rfl, _, _, rfl, rfl, _, rfl, ifn (fun c => absurd e c) (fun c => ?_)⟩
      refine ⟨_, rfl, _, rfl, _, _, rfl, rfl, ?_⟩
      show Q (.int (n + (z + 1))) _
      rw [e0]
      exact k _ (isTot_second b0 n0 hz h1) (by omega)
end
theorem log2_small {i : Int} (h0 : 0 ≤ i) (h1 : i < 10 ^ 70) : i.natAbs.log2 < 1920 := by
  have h3 : i.natAbs < 2 ^ 300 := Nat.lt_of_lt_of_le (show i.natAbs < 10 ^ 70 by omega) (by decide)
  exact Nat.lt_of_lt_of_le (PySem.Flt.log2_lt_of (by decide) h3) (by decide)
/-! ### ints shown -/
theorem shownAll_ints : ∀ xs : List Int, PyData.shownAll (xs.map PyData.int) = xs.map fun i => (toString i : Str)
  | [] => rfl
  | x :: xs => by
    show (toString x : Str) :: PyData.shownAll (xs.map PyData.int) = _
    rw [shownAll_ints xs]
    rfl
theorem sum_short : ∀ (xs : List Int), (∀ x ∈ xs, x.natAbs < 10 ^ 70) → ((xs.map fun i => (toString i : Str)).map (·.length)).sum ≤ 71 * xs.length
  | [], _ => by simp
  | x :: xs, h => by
    have h1 := sum_short xs fun y hy => h y (List.mem_cons_of_mem _ hy)
    have h2 : (toString x : Str).length ≤ 71 := by
      have := int_text_length_le10 (k := 70) (by decide) (h x (List.mem_cons_self ..))
      have e : (Str.ofString (toString x)).length = (toString x : String).length := PySem.ofString_length _
      show (Str.ofString (toString x)).length ≤ 71
      omega
    simp only [List.map_cons, List.sum_cons, List.length_cons]
    omega
def Shows (d : PyData) : Prop := d.showable = true ∧ d.hasDict = false ∧ d.depth ≤ 40 ∧ d.shown.length ≤ sizeLine
theorem ints_showable : ∀ xs : List Int, (∀ x ∈ xs, x.natAbs < 10 ^ 70) → PyData.showableAll (xs.map PyData.int) = true ∧ PyData.hasDictAll (xs.map PyData.int) = false ∧ PyData.depthAll (xs.map PyData.int) ≤ 2
  | [], _ => ⟨rfl, rfl, by decide⟩
  | x :: xs, h => by
    obtain ⟨h1, h2, h3⟩ := ints_showable xs fun y hy => h y (List.mem_cons_of_mem _ hy)
    have hx : x.natAbs.log2 < 1920 := by
      have h4 : x.natAbs < 2 ^ 300 := Nat.lt_of_lt_of_le (h x (List.mem_cons_self ..)) (by decide)
      exact Nat.lt_of_lt_of_le (PySem.Flt.log2_lt_of (by decide) h4) (by decide)
    refine ⟨?_, ?_, ?_⟩
    · show (decide (x.natAbs.log2 < 1920) && PyData.showableAll (xs.map PyData.int)) = true
      rw [h1, decide_eq_true hx] <;> rfl
    · show (false || PyData.hasDictAll (xs.map PyData.int)) = false
      rw [h2] <;> rfl
    · show max (PyData.depth (.int x)) (PyData.depthAll (xs.map PyData.int)) ≤ 2
      have : PyData.depth (.int x) ≤ 1 := by first | exact Nat.le_refl _ | exact Nat.zero_le _ | decide
      omega
theorem shows_tuple {xs : List Int} (h : ∀ x ∈ xs, x.natAbs < 10 ^ 70) (hl : xs.length ≤ 10000) : Shows (.tuple (xs.map PyData.int)) := by
  obtain ⟨h1, h2, h3⟩ := ints_showable xs h
  refine ⟨h1, h2, ?_, ?_⟩
  · show PyData.depthAll (xs.map PyData.int) + 1 ≤ 40
    omega
  · show (tupleText (PyData.shownAll (xs.map PyData.int))).length ≤ sizeLine
    have h4 := tupleText_len_le (PyData.shownAll (xs.map PyData.int))
    rw [shownAll_ints] at h4 ⊢
    have h5 := sum_short xs h
    rw [List.length_map] at h4
    rw [sizeLine_eq]
    omega
theorem shows_list {xs : List Int} (h : ∀ x ∈ xs, x.natAbs < 10 ^ 70) (hl : xs.length ≤ 10000) : Shows (.list (xs.map PyData.int)) := by
  obtain ⟨h1, h2, h3⟩ := ints_showable xs h
  refine ⟨h1, h2, ?_, ?_⟩
  · show PyData.depthAll (xs.map PyData.int) + 1 ≤ 40
    omega
  · show (listText (PyData.shownAll (xs.map PyData.int))).length ≤ sizeLine
    have h4 := listText_len_le (PyData.shownAll (xs.map PyData.int))
    rw [shownAll_ints] at h4 ⊢
    have h5 := sum_short xs h
    rw [List.length_map] at h4
    rw [sizeLine_eq]
    omega
theorem dp_ints {K : PySem.W.Frag} {H : Hp} : ∀ xs : List Int, DpAll K H (xs.map V.int) (xs.map PyData.int)
  | [] => .nil
  | x :: xs => .cons (.int x) (dp_ints xs)
section
variable {P : Program} {w : World} {K : PySem.W.Frag} {mg : Str → Option Value} {base : Heap}
def spConst : Sp := fun vs H Q _ => ∃ n : Int, vs = [.int n] ∧ 0 ≤ n ∧ n ≤ 1000 ∧ Q .non H
theorem ok_check_constant (T : Tx K mg) : Prom P w K mg base CX0 3 "check_constant" s_check_constant ["value"] spConst := by
  refine Prom.of T.d_check_constant sc_check_constant (fun vs H Q E h => ?_) (fun _ _ _ _ _ _ us hl => match us, hl with | [_], _ => rfl) (fun f cdv A outer s H vs Q E hr h => ?_)
  · obtain ⟨i, rfl, _⟩ := h
    rfl
  · obtain ⟨i, rfl, h0, h1, k⟩ := h
    refine ⟨_, (pss_one (ps_if (pt_not (pt_val (pe_callP (ok_is_between T) (hr.mono (by decide)) (by rfl) pass0 (pa_cons (pv 0) (pa_cons pe_int (pa_cons (pe_gint T.c_MOST_CONSTANT) pa_nil)))))) (pss_one ps_never) pss_nil)), ?_⟩
    refine ⟨_, rfl, _, _, _, rfl, _, rfl, ?_⟩
    exact ifn (fun c => absurd (show (0 : Int) ≤ i ∧ i ≤ 1000 from ⟨h0, h1⟩) c) (fun _ => k)
end
section
variable {P : Program} {w : World} {K : PySem.W.Frag} {mg : Str → Option Value} {base : Heap}
def totL (b N s : Int) (two : Bool) : List Int := if two then [s, s + 1] else [s]
def spTotals : Sp := fun vs H Q _ => ∃ b c n : Int, vs = [.int b, .int c, .int n] ∧ 2 ≤ b ∧ b ≤ 256 ∧ 0 ≤ c ∧ c ≤ 1000 ∧ 0 ≤ n ∧ n ≤ 10 ^ 60 - 1 ∧
  ∀ s two p H', IsTot b (n + c) s → s ≤ n + c + 4000 → (two = true ↔ Tot b (n + c) (s + 1)) → H p = none → Same H H' → H' p = some (.tup ((totL b (n + c) s two).map V.int)) → Q (.ref p) H'
theorem ok_totals (T : Tx K mg) : Prom P w K mg base CX0 4 "totals" s_totals ["base", "constant", "length"] spTotals := by
  refine Prom.of T.d_totals sc_totals (fun vs H Q E h => ?_) (fun _ _ _ _ _ _ us hl => match us, hl with | [_, _, _], _ => rfl) (fun f cdv A outer s H vs Q E hr h => ?_)
  · obtain ⟨b, c, n, rfl, _⟩ := h
    rfl
  · obtain ⟨b, c, n, rfl, b0, b1, c0, c1, n0, n1, k⟩ := h
    have big : ∀ x : Int, x ≤ n + c + 5000 → x < 2 ^ 3900 := fun x hx => by
      have : (10 : Int) ^ 60 + 7000 ≤ 2 ^ 3900 := by decide
      omega
    have big4 : ∀ x : Int, x ≤ n + c + 5000 → x < 2 ^ 4000 := fun x hx => Int.lt_trans (big x hx) (by decide)
    refine ⟨_, (pss_cons (ps_expr (pe_callP (ok_check_base T) (hr.mono (by decide)) (by rfl) pass0 (pa_cons (pv 0) pa_nil)))
      (pss_cons (ps_expr (pe_callP (ok_check_constant T) (hr.mono (by decide)) (by rfl) pass0 (pa_cons (pv 1) pa_nil)))
      (pss_cons (ps_expr (pe_callP (ok_check_length T) (hr.mono (by decide)) (by rfl) pass0 (pa_cons (pv 2) pa_nil)))
      (pss_cons (ps_set (i := 3) sc_totals.nd rfl (Or.inl rfl) (pe_callP (ok_total_of T) (hr.mono (by decide)) (by rfl) pass0 (pa_cons (pe_op op_add (pv 2) (pv 1)) (pa_cons (pv 0) pa_nil))))
      (pss_cons (ps_if (pt_cmp (pc_gt (pe_callP (ok_figures_of T) (hr.mono (by decide)) (by rfl) pass0 (pa_cons (pe_op op_add (pv 3) pe_int) (pa_cons (pv 0) pa_nil))) (pe_callP (ok_figures_of T) (hr.mono (by decide)) (by rfl) pass0 (pa_cons (pv 3) (pa_cons (pv 0) pa_nil))))) (pss_one (ps_ret (pe_tup (pa_cons (pv 3) (pa_cons (pe_op op_add (pv 3) pe_int) pa_nil))))) pss_nil)
      (pss_one (ps_ret (pe_tup (pa_cons (pv 3) pa_nil))))))))), ?_⟩
    refine ⟨_, rfl, b, rfl, b0, b1, _, rfl, c, rfl, c0, c1, _, rfl, n, rfl, n0, n1, ?_⟩
    refine ⟨_, rfl, _, rfl, _, _, rfl, rfl, _, rfl, n + c, b, rfl, b0, b1, by omega, big _ (by omega), fun s hs s1 => ?_⟩
    have s0 := isTot_pos hs.tot
    refine ⟨_, rfl, _, _, rfl, rfl, _, rfl, s + 1, b, rfl, b0, b1, big4 _ (by omega), fun g hg => ?_⟩
    refine ⟨_, rfl, _, rfl, s, b, rfl, b0, b1, big4 _ (by omega), fun h hh => ?_⟩
    have key := tot_two b0 hs.tot hh hg
    refine ⟨_, _, rfl, rfl, _, rfl, ifd (fun d => ?_) (fun d => ?_)⟩
    · refine ⟨_, rfl, _, rfl, _, _, rfl, rfl, (by show 2 ≤ sizeLine; decide), fun p hp => ?_⟩
      exact k s true p _ hs s1 (by simpa using key.mp d) hp (fun x o e => by rw [upd_ne (ne_of_none e hp)]; exact e) upd_same
    · refine ⟨_, rfl, (by show 1 ≤ sizeLine; decide), fun p hp => ?_⟩
      exact k s false p _ hs s1 (by simpa using fun z => d (key.mpr z)) hp (fun x o e => by rw [upd_ne (ne_of_none e hp)]; exact e) upd_same
end
/-! ### doubled of numbers, with TooLong -/
def spDblI (K : PySem.W.Frag) : Sp := fun vs H Q E => ∃ (b c : Int) (n j : Nat), vs = [.int b, .int c, .int (n : Int)] ∧ 2 ≤ b ∧ b ≤ 256 ∧ 0 ≤ c ∧ c ≤ 1000 ∧ IsJ b c j ∧ (10 ^ 60 ≤ dlen b c (j + n) → Fails K H E "TooLong" "limit" (.int (10 ^ 60))) ∧ (dlen b c (j + n) < 10 ^ 60 → Q (.int (dlen b c (j + n))) H)
section
variable {P : Program} {w : World} {K : PySem.W.Frag} {mg : Str → Option Value} {base : Heap}
theorem ok_doubled (T : Tx K mg) : Prom P w K mg base (L2.CX P w) 4 "doubled" s_doubled ["base", "constant", "number"] (spDblI K) := by
  refine Prom.ofX T.d_doubled sc_doubled (fun vs H Q E h => ?_) (fun _ _ _ _ _ _ us hl => match us, hl with | [_, _, _], _ => rfl) (fun f cdv A outer s H vs Q E hr h => ?_)
  · obtain ⟨b, c, n, j, rfl, _⟩ := h
    rfl
  · obtain ⟨b, c, n, j0, rfl, b0, b1, c0, c1, hj, far, near⟩ := h
    refine ⟨_, (pss_cons (ps_expr (pe_callP (ok_check_base T) (hr.mono (by decide)) (by rfl) pass0 (pa_cons (pv 0) pa_nil)))
      (pss_cons (ps_expr (pe_callP (ok_check_constant T) (hr.mono (by decide)) (by rfl) pass0 (pa_cons (pv 1) pa_nil)))
      (pss_cons (ps_if (PW.pt (pw_or (pt_not (pt_val (pe_callP (ok_is_integer T) (hr.mono (by decide)) (by rfl) pass0 (pa_cons (pv 2) pa_nil)))) (pw_or1 (pt_cmp (pc_lt (pv 2) pe_int))))) (pss_one (ps_raiseE (ok_err_InvalidNumber T) (hr.mono (by decide)) (by rfl) (takes_of rfl rfl rfl rfl) (pv 2))) pss_nil)
      (pss_cons (ps_par3 (i := 3) (j := 4) (l := 5) (by rfl) sc_doubled.nd rfl rfl rfl (by decide) (by decide) (by decide) rfl rfl rfl (pa_cons (pv 2) (pa_cons pe_int (pa_cons (pv 0) pa_nil))) (by rfl))
      (pss_cons (ps_set (i := 6) sc_doubled.nd rfl (Or.inl rfl) (pe_op op_sub (pe_op op_sub (pe_op op_sub (pv 5) pe_int) (pv 4)) (pv 1)))
      (pss_cons (ps_while (passes_of rfl) (PW.pt (pw_or (pt_cmp (pc_lt (pv 6) pe_int)) (pw_or1 (pt_cmp (pc_gt (pv 3) pe_int))))) (pss_cons (ps_if (pt_cmp (pc_ge (pv 6) (pe_gint T.c_MOST_LENGTH))) (pss_one (ps_raiseE (ok_err_TooLong T) (hr.mono (by decide)) (by rfl) (takes_of rfl rfl rfl rfl) (pe_gint T.c_MOST_LENGTH))) pss_nil)
      (pss_cons (ps_aug (i := 3) sc_doubled.nd rfl (.inl rfl) (pe_ifExp (pt_cmp (pc_lt (pv 6) pe_int)) pe_int pe_int) ip_sub)
      (pss_cons (ps_par (i := 4) (j := 5) (by rfl) sc_doubled.nd rfl rfl (by decide) rfl rfl (pa_cons (pe_op op_add (pv 4) pe_int) (pa_cons (pe_op op_mul (pv 5) (pv 0)) pa_nil)) (by rfl))
      (pss_one (ps_set (i := 6) sc_doubled.nd rfl (Or.inl rfl) (pe_op op_sub (pe_op op_sub (pe_op op_sub (pv 5) pe_int) (pv 4)) (pv 1))))))))
      (pss_cons (ps_if (pt_cmp (pc_ge (pv 6) (pe_gint T.c_MOST_LENGTH))) (pss_one (ps_raiseE (ok_err_TooLong T) (hr.mono (by decide)) (by rfl) (takes_of rfl rfl rfl rfl) (pe_gint T.c_MOST_LENGTH))) pss_nil)
      (pss_one (ps_ret (pv 6)))))))))), ?_⟩
    refine ⟨_, rfl, b, rfl, b0, b1, _, rfl, c, rfl, c0, c1, ?_⟩
    refine ⟨_, rfl, _, rfl, _, rfl, iteF ⟨_, rfl, _, _, rfl, rfl, _, rfl, ifd_neg (by omega) ?_⟩⟩
    refine ⟨_, rfl, _, rfl, _, _, _, rfl, ?_⟩
    refine ⟨_, rfl, _, _, rfl, rfl, _, rfl, _, _, rfl, rfl, _, rfl, _, _, rfl, rfl, ?_⟩
    have hpos := hj.pos
    -- the word of the loop: j figures, what is left
    refine ⟨fun m σ H1 => H1 = H ∧ ∃ j : Nat, 1 ≤ j ∧ j ≤ j0 + n ∧ σ = [some (.int b), some (.int c), some (.int (n : Int)), some (.int ((n : Int) - ((j - j0 : Nat) : Int))), some (.int (j : Int)), some (.int (b ^ j)), some (.int (dlen b c j))] ∧ m = j0 + n - j,
      ⟨_, rfl, 1, Nat.le_refl 1, by omega, ?_, rfl⟩, ?_⟩
    · have e1 : (1 - j0 : Nat) = 0 := by omega
      have e2 : b ^ 1 = b := pow_one b
      unfold dlen
      rw [e1, e2]
      have e3 : (n : Int) - ((0 : Nat) : Int) = (n : Int) := by omega
      rw [e3]
      rfl
    rintro m σ H1 ⟨rfl, j, j1, j2, rfl, hm⟩
    have stop : 10 ^ 60 ≤ dlen b c j → Fails K H1 E "TooLong" "limit" (.int (10 ^ 60)) := fun z => far (Int.le_trans z (dlen_mono b0 j1 j2))
    have hi := isJ_iff b0 hj j1
    -- one turn more
    have turn : ∀ z : Int, j < j0 + n → (n : Int) - ((j - j0 : Nat) : Int) - z = (n : Int) - ((j + 1 - j0 : Nat) : Int) →
        ∃ m', m' < m ∧ H1 = H1 ∧ ∃ i : Nat, 1 ≤ i ∧ i ≤ j0 + n ∧ [some (V.int b), some (V.int c), some (V.int (n : Int)), some (V.int ((n : Int) - ((j - j0 : Nat) : Int) - z)), some (V.int ((j : Int) + 1)), some (V.int (b ^ j * b)), some (V.int (b ^ j * b - 1 - ((j : Int) + 1) - c))] = [some (.int b), some (.int c), some (.int (n : Int)), some (.int ((n : Int) - ((i - j0 : Nat) : Int))), some (.int (i : Int)), some (.int (b ^ i)), some (.int (dlen b c i))] ∧ m' = j0 + n - i := fun z hz ez => by
      refine ⟨_, ?_, rfl, j + 1, by omega, by omega, ?_, rfl⟩
      · omega
      · unfold dlen
        rw [ez, Int.pow_succ]
        rfl
    refine ⟨_, rfl, _, _, rfl, rfl, _, rfl, ifd (fun h1 => iteT ?_) (fun h1 => ?_)⟩
    · -- length < 0
      have hjj : j < j0 := by
        by_cases z : j0 ≤ j
        · have := hi.mpr z
          omega
        · omega
      refine ⟨_, fun _ _ h => h, ?_⟩
      refine ⟨_, rfl, _, _, rfl, rfl, _, rfl, ifd_neg (by show ¬ _ ≤ dlen b c j; omega) ?_⟩
      refine ⟨_, rfl, _, rfl, _, _, rfl, rfl, _, rfl, ifd_pos h1 ?_⟩
      refine ⟨_, _, rfl, rfl, ?_⟩
      refine ⟨_, rfl, _, _, rfl, rfl, _, rfl, _, rfl, _, _, rfl, rfl, .inr ⟨by omega, by omega⟩, _, _, rfl, ?_⟩
      refine ⟨_, rfl, _, _, rfl, rfl, _, rfl, _, _, rfl, rfl, _, rfl, _, _, rfl, rfl, ?_⟩
      exact turn 0 (by omega) (by omega)
    · have hjj : j0 ≤ j := hi.mp (by omega)
      refine ⟨_, rfl, _, _, rfl, rfl, _, rfl, ifd (fun h2 => ?_) (fun h2 => ?_)⟩
      · refine ⟨_, fun _ _ h => h, ?_⟩
        refine ⟨_, rfl, _, _, rfl, rfl, _, rfl, ifd (fun z => stop z) (fun z => ?_)⟩
        refine ⟨_, rfl, _, rfl, _, _, rfl, rfl, _, rfl, ifd_neg h1 ?_⟩
        refine ⟨_, _, rfl, rfl, ?_⟩
        refine ⟨_, rfl, _, _, rfl, rfl, _, rfl, _, rfl, _, _, rfl, rfl, .inr ⟨by omega, by omega⟩, _, _, rfl, ?_⟩
        refine ⟨_, rfl, _, _, rfl, rfl, _, rfl, _, _, rfl, rfl, _, rfl, _, _, rfl, rfl, ?_⟩
        exact turn 1 (by omega) (by omega)
      · refine ⟨_, rfl, _, _, rfl, rfl, _, rfl, ifd (fun z => stop z) (fun z => ?_)⟩
        have z : ¬ 10 ^ 60 ≤ dlen b c j := z
        have e : j = j0 + n := by omega
        subst e
        exact ⟨_, rfl, near (by omega)⟩
end
/-! ### what is read stays read -/
theorem sqL_same {K : PySem.W.Frag} {H H' : Hp} {a : Addr} {xs : List V} (s : Same H H') (h : SqL K H a xs) : SqL K H' a xs := by
  rcases h with (h | ⟨o, h⟩) | h
  · exact .inl (.inl (s _ _ h))
  · exact .inl (.inr ⟨o, s _ _ h⟩)
  · exact .inr h
theorem sqT_same {K : PySem.W.Frag} {H H' : Hp} {a : Addr} {xs : List V} (s : Same H H') (h : SqT K H a xs) : SqT K H' a xs := by
  rcases h with (h | ⟨o, h⟩) | h
  · exact .inl (.inl (s _ _ h))
  · exact .inl (.inr ⟨o, s _ _ h⟩)
  · exact .inr h
mutual
theorem Dp.same {K : PySem.W.Frag} {H H' : Hp} (s : Same H H') : ∀ {v : V} {d : PyData}, Dp K H v d → Dp K H' v d
  | _, _, .non => .non
  | _, _, .bl b => .bl b
  | _, _, .int i => .int i
  | _, _, .str x => .str x
  | _, _, .lst h g => .lst (sqL_same s h) (DpAll.same s g)
  | _, _, .tup h g => .tup (sqT_same s h) (DpAll.same s g)
theorem DpAll.same {K : PySem.W.Frag} {H H' : Hp} (s : Same H H') : ∀ {xs : List V} {ds : List PyData}, DpAll K H xs ds → DpAll K H' xs ds
  | _, _, .nil => .nil
  | _, _, .cons h g => .cons (Dp.same s h) (DpAll.same s g)
end
theorem Shw.same {K : PySem.W.Frag} {H H' : Hp} {v : V} {z : Str} (s : Same H H') (h : Shw K H v z) : Shw K H' v z := by
  cases h with
  | flat h => exact .flat h
  | str h => exact .str h
  | dat h h1 h2 h3 h4 => exact .dat (Dp.same s h) h1 h2 h3 h4
  | edict h => exact .edict (s _ _ h)
/-! ### the word and the field of an error -/
def ef (i : Nat) : Str := if i < 9 then "value" else if i < 13 then "index" else "limit"
def spErrP (K : PySem.W.Frag) : Addr × Obj → Sp := fun p vs H Q _ => ∃ (i : Nat) (z : Str), i < 19 ∧ vs = [.ref p.1] ∧ p.2.cls = .ref (He.ga K (ew i)) ∧ (∃ vs', p.2.data = .fields vs') ∧
  ((eb i = 1 ∧ p.2.dict = none ∧ z = Str.empty) ∨ (eb i ≠ 1 ∧ ∃ (d : Addr) (v : V), p.2.dict = some d ∧ H d = some (.xd [(ef i, v)]) ∧ Shw K H v z)) ∧ ∀ t H', Same H H' → H' t = some (.tup [.str (ew i), .str z]) → Q (.ref t) H'
def fitsL (i : Nat) : List V := (List.range 19).map fun j => V.bl (decide (i = j))
theorem fits_cnt : ∀ i : Fin 19, ((fitsL i.val).countP fun z => eqV z (.bl true)) = 1 := by decide +kernel
theorem fits_at : ∀ i : Fin 19, (fitsL i.val)[i.val]? = some (.bl true) := by decide +kernel
theorem fits_no : ∀ i : Fin 19, ∀ m : Fin 19, m.val < i.val → (fitsL i.val)[m.val]? = some (.bl false) := by decide +kernel
theorem fits_flat : ∀ i : Fin 19, (fitsL i.val).all flatV = true := by decide +kernel
theorem ew_at : ∀ i : Fin 19, ewords[i.val]? = some (ew i.val) := by decide +kernel
theorem isP_go {K : PySem.W.Frag} {a : Addr} {oe : Obj} {H : Hp} {Q : VK} {D C : Addr} {b : Bool} (hc : oe.cls = .ref D) (T : ExcC K D) (hv : ∃ vs, oe.data = .fields vs) (hd : oe.dict = none ∨ ∃ (d : Addr) (fs : List (Str × V)), oe.dict = some d ∧ H d = some (.xd fs)) (e : PySem.W.kitOne K (.ref D) (.ref C) = some b) (k : Q (.bl b) H) :
    rIsP K a oe [.ref a, .ref C] H Q := ⟨.ref C, .ref C, D, b, rfl, fun u r => r, hc, T, hv, hd, e, k⟩
theorem isP_ty {K : PySem.W.Frag} {a : Addr} {oe : Obj} {H : Hp} {Q : VK} {D : Addr} {c : String} {b : Bool} (hc : oe.cls = .ref D) (T : ExcC K D) (hv : ∃ vs, oe.data = .fields vs) (hd : oe.dict = none ∨ ∃ (d : Addr) (fs : List (Str × V)), oe.dict = some d ∧ H d = some (.xd fs)) (e : PySem.W.kitOne K (.ref D) (.type c) = some b) (k : Q (.bl b) H) :
    rIsP K a oe [.ref a, .ty c] H Q := ⟨.ty c, .type c, D, b, rfl, fun u r => r, hc, T, hv, hd, e, k⟩
theorem eqv3 {x y z x' y' z' : Bool} (h1 : x = x') (h2 : y = y') (h3 : z = z') : V.bl (!PyData.eqv (.list [.bool x, .bool y, .bool z]) (.list [.bool x', .bool y', .bool z'])) = V.bl false := by
  subst h1 h2 h3
  cases x <;> cases y <;> cases z <;> rfl
section
variable {P : Program} {w : World} {K : PySem.W.Frag} {mg : Str → Option Value} {base : Heap}
theorem ok_L_error (T : Tx K mg) : PromP P w K mg base 1 "_law_error" s_L_error ["_law_e"] (spErrP K) := by
  refine PromP.of T.d_L_error sc_L_error (fun p vs H Q E h => ?_) (fun _ _ _ _ _ _ us hl => match us, hl with | [_], _ => rfl) (fun f cdv A outer s H vs Q E p hr hgd h => ?_)
  · obtain ⟨i, z, _, rfl, _⟩ := h
    rfl
  · obtain ⟨i, z, hi, rfl, hc, hv, hz, k⟩ := h
    have hun : (A.deeper (envOfC "_law_error" (defScope s_L_error) s.heap.objs.size f cdv)).units + 64 < cLine := by have := hr.un; omega
    refine ⟨_, (pss_cons (ps_set (i := 1) sc_L_error.nd rfl (Or.inl rfl) (pe_lst (pa_cons pe_str (pa_cons pe_str (pa_cons pe_str (pa_cons pe_str (pa_cons pe_str (pa_cons pe_str (pa_cons pe_str pa_nil)))))))))
      (pss_cons (ps_set (i := 1) sc_L_error.nd rfl (Or.inl rfl) (pe_op op_cat (pv 1) (pe_lst (pa_cons pe_str (pa_cons pe_str (pa_cons pe_str (pa_cons pe_str (pa_cons pe_str (pa_cons pe_str pa_nil)))))))))
      (pss_cons (ps_set (i := 1) sc_L_error.nd rfl (Or.inl rfl) (pe_op op_cat (pv 1) (pe_lst (pa_cons pe_str (pa_cons pe_str (pa_cons pe_str (pa_cons pe_str (pa_cons pe_str (pa_cons pe_str pa_nil)))))))))
      (pss_cons (ps_set (i := 2) sc_L_error.nd rfl (Or.inl rfl) (pe_lst (pa_cons (pe_callB (call_isP (a := p.1) (oe := p.2) (List.mem_cons_self ..)) (by rfl) T.b_isinstance (by decide +kernel) (pa_cons (pv 0) (pa_cons (pe_glob (v := .ref _) (by rfl) T.k_NotAWrap rfl) pa_nil))) (pa_cons (pe_callB (call_isP (a := p.1) (oe := p.2) (List.mem_cons_self ..)) (by rfl) T.b_isinstance (by decide +kernel) (pa_cons (pv 0) (pa_cons (pe_glob (v := .ref _) (by rfl) T.k_NotAStack rfl) pa_nil))) (pa_cons (pe_callB (call_isP (a := p.1) (oe := p.2) (List.mem_cons_self ..)) (by rfl) T.b_isinstance (by decide +kernel) (pa_cons (pv 0) (pa_cons (pe_glob (v := .ref _) (by rfl) T.k_NotARoad rfl) pa_nil))) (pa_cons (pe_callB (call_isP (a := p.1) (oe := p.2) (List.mem_cons_self ..)) (by rfl) T.b_isinstance (by decide +kernel) (pa_cons (pv 0) (pa_cons (pe_glob (v := .ref _) (by rfl) T.k_InvalidKind rfl) pa_nil))) pa_nil))))))
      (pss_cons (ps_set (i := 2) sc_L_error.nd rfl (Or.inl rfl) (pe_op op_cat (pv 2) (pe_lst (pa_cons (pe_callB (call_isP (a := p.1) (oe := p.2) (List.mem_cons_self ..)) (by rfl) T.b_isinstance (by decide +kernel) (pa_cons (pv 0) (pa_cons (pe_glob (v := .ref _) (by rfl) T.k_InvalidBase rfl) pa_nil))) (pa_cons (pe_callB (call_isP (a := p.1) (oe := p.2) (List.mem_cons_self ..)) (by rfl) T.b_isinstance (by decide +kernel) (pa_cons (pv 0) (pa_cons (pe_glob (v := .ref _) (by rfl) T.k_InvalidLength rfl) pa_nil))) (pa_cons (pe_callB (call_isP (a := p.1) (oe := p.2) (List.mem_cons_self ..)) (by rfl) T.b_isinstance (by decide +kernel) (pa_cons (pv 0) (pa_cons (pe_glob (v := .ref _) (by rfl) T.k_InvalidNumber rfl) pa_nil))) pa_nil))))))
      (pss_cons (ps_set (i := 2) sc_L_error.nd rfl (Or.inl rfl) (pe_op op_cat (pv 2) (pe_lst (pa_cons (pe_callB (call_isP (a := p.1) (oe := p.2) (List.mem_cons_self ..)) (by rfl) T.b_isinstance (by decide +kernel) (pa_cons (pv 0) (pa_cons (pe_glob (v := .ref _) (by rfl) T.k_InvalidText rfl) pa_nil))) (pa_cons (pe_callB (call_isP (a := p.1) (oe := p.2) (List.mem_cons_self ..)) (by rfl) T.b_isinstance (by decide +kernel) (pa_cons (pv 0) (pa_cons (pe_glob (v := .ref _) (by rfl) T.k_InvalidRow rfl) pa_nil))) (pa_cons (pe_callB (call_isP (a := p.1) (oe := p.2) (List.mem_cons_self ..)) (by rfl) T.b_isinstance (by decide +kernel) (pa_cons (pv 0) (pa_cons (pe_glob (v := .ref _) (by rfl) T.k_InvalidNumbers rfl) pa_nil))) pa_nil))))))
      (pss_cons (ps_set (i := 2) sc_L_error.nd rfl (Or.inl rfl) (pe_op op_cat (pv 2) (pe_lst (pa_cons (pe_callB (call_isP (a := p.1) (oe := p.2) (List.mem_cons_self ..)) (by rfl) T.b_isinstance (by decide +kernel) (pa_cons (pv 0) (pa_cons (pe_glob (v := .ref _) (by rfl) T.k_InvalidWraps rfl) pa_nil))) (pa_cons (pe_callB (call_isP (a := p.1) (oe := p.2) (List.mem_cons_self ..)) (by rfl) T.b_isinstance (by decide +kernel) (pa_cons (pv 0) (pa_cons (pe_glob (v := .ref _) (by rfl) T.k_InvalidSeen rfl) pa_nil))) (pa_cons (pe_callB (call_isP (a := p.1) (oe := p.2) (List.mem_cons_self ..)) (by rfl) T.b_isinstance (by decide +kernel) (pa_cons (pv 0) (pa_cons (pe_glob (v := .ref _) (by rfl) T.k_InvalidDeeds rfl) pa_nil))) pa_nil))))))
      (pss_cons (ps_set (i := 2) sc_L_error.nd rfl (Or.inl rfl) (pe_op op_cat (pv 2) (pe_lst (pa_cons (pe_callB (call_isP (a := p.1) (oe := p.2) (List.mem_cons_self ..)) (by rfl) T.b_isinstance (by decide +kernel) (pa_cons (pv 0) (pa_cons (pe_glob (v := .ref _) (by rfl) T.k_NothingToPop rfl) pa_nil))) (pa_cons (pe_callB (call_isP (a := p.1) (oe := p.2) (List.mem_cons_self ..)) (by rfl) T.b_isinstance (by decide +kernel) (pa_cons (pv 0) (pa_cons (pe_glob (v := .ref _) (by rfl) T.k_NothingToUndo rfl) pa_nil))) (pa_cons (pe_callB (call_isP (a := p.1) (oe := p.2) (List.mem_cons_self ..)) (by rfl) T.b_isinstance (by decide +kernel) (pa_cons (pv 0) (pa_cons (pe_glob (v := .ref _) (by rfl) T.k_Busy rfl) pa_nil))) pa_nil))))))
      (pss_cons (ps_set (i := 2) sc_L_error.nd rfl (Or.inl rfl) (pe_op op_cat (pv 2) (pe_lst (pa_cons (pe_callB (call_isP (a := p.1) (oe := p.2) (List.mem_cons_self ..)) (by rfl) T.b_isinstance (by decide +kernel) (pa_cons (pv 0) (pa_cons (pe_glob (v := .ref _) (by rfl) T.k_TooFine rfl) pa_nil))) (pa_cons (pe_callB (call_isP (a := p.1) (oe := p.2) (List.mem_cons_self ..)) (by rfl) T.b_isinstance (by decide +kernel) (pa_cons (pv 0) (pa_cons (pe_glob (v := .ref _) (by rfl) T.k_TooManyWraps rfl) pa_nil))) (pa_cons (pe_callB (call_isP (a := p.1) (oe := p.2) (List.mem_cons_self ..)) (by rfl) T.b_isinstance (by decide +kernel) (pa_cons (pv 0) (pa_cons (pe_glob (v := .ref _) (by rfl) T.k_TooLong rfl) pa_nil))) pa_nil))))))
      (pss_cons (ps_set (i := 3) sc_L_error.nd rfl (Or.inl rfl) (pe_lst (pa_cons (pe_callB (call_isP (a := p.1) (oe := p.2) (List.mem_cons_self ..)) (by rfl) T.b_isinstance (by decide +kernel) (pa_cons (pv 0) (pa_cons (pe_glob (v := .ref _) (by rfl) T.k_Misfit rfl) pa_nil))) (pa_cons (pe_callB (call_isP (a := p.1) (oe := p.2) (List.mem_cons_self ..)) (by rfl) T.b_isinstance (by decide +kernel) (pa_cons (pv 0) (pa_cons (pe_glob (v := .ref _) (by rfl) T.k_Untimely rfl) pa_nil))) (pa_cons (pe_callB (call_isP (a := p.1) (oe := p.2) (List.mem_cons_self ..)) (by rfl) T.b_isinstance (by decide +kernel) (pa_cons (pv 0) (pa_cons (pe_glob (v := .ref _) (by rfl) T.k_Excess rfl) pa_nil))) pa_nil)))))
      (pss_cons (ps_set (i := 4) sc_L_error.nd rfl (Or.inl rfl) (pe_lst (pa_cons (pe_callB (call_isP (a := p.1) (oe := p.2) (List.mem_cons_self ..)) (by rfl) T.b_isinstance (by decide +kernel) (pa_cons (pv 0) (pa_cons (pe_bltn (v := .ty "ValueError") (by rfl) T.b_ValueError (by decide +kernel) rfl) pa_nil))) (pa_cons (pe_callB (call_isP (a := p.1) (oe := p.2) (List.mem_cons_self ..)) (by rfl) T.b_isinstance (by decide +kernel) (pa_cons (pv 0) (pa_cons (pe_bltn (v := .ty "LookupError") (by rfl) T.b_LookupError (by decide +kernel) rfl) pa_nil))) (pa_cons (pe_callB (call_isP (a := p.1) (oe := p.2) (List.mem_cons_self ..)) (by rfl) T.b_isinstance (by decide +kernel) (pa_cons (pv 0) (pa_cons (pe_bltn (v := .ty "ArithmeticError") (by rfl) T.b_ArithmeticError (by decide +kernel) rfl) pa_nil))) pa_nil)))))
      (pss_cons (ps_set (i := 5) sc_L_error.nd rfl (Or.inl rfl) (pe_ifExp (pt_cmp (pc_eqI (pe_bm PySem.F.plainAttrs_list PySem.F.slot_list_count PySem.F.type_list_count mt_countF (pv 2) (pa_cons pe_bl pa_nil)) pe_int)) (pe_bm PySem.F.plainAttrs_list PySem.F.slot_list_index PySem.F.type_list_index mt_index (pv 2) (pa_cons pe_bl pa_nil)) pe_int))
      (pss_cons (ps_if (PW.pt (pw_or (pt_cmpR (op_neD hun) (pv 3) (pv 4) (nomark _)) (pw_or1 (pt_cmpR (op_neD hun) (pv 3) (pe_lst (pa_cons (pe_cmp (pc_lt (pv 5) pe_int)) (pa_cons (pe_chain op_lt op_lt pe_int (pv 5) pe_int) (pa_cons (pe_chain op_lt op_lt pe_int (pv 5) pe_int) pa_nil)))) (nomark _))))) (pss_one (ps_ret (pe_tup (pa_cons pe_str (pa_cons pe_str pa_nil))))) pss_nil)
      (pss_cons (ps_if (pt_cmp (pc_lt (pv 5) pe_int)) (pss_one (ps_ret (pe_tup (pa_cons (pe_ix ix_list (pv 1) (pv 5) (fun _ _ => rfl)) (pa_cons (pe_callB (cr_reprW hgd hun) (by rfl) T.b_repr (by decide +kernel) (pa_cons (pe_xfP (a := p.1) (oe := p.2) (List.mem_cons_self ..) (pv 0)) pa_nil)) pa_nil))))) pss_nil)
      (pss_cons (ps_if (pt_cmp (pc_lt (pv 5) pe_int)) (pss_one (ps_ret (pe_tup (pa_cons (pe_ix ix_list (pv 1) (pv 5) (fun _ _ => rfl)) (pa_cons (pe_callB (cr_reprW hgd hun) (by rfl) T.b_repr (by decide +kernel) (pa_cons (pe_xfP (a := p.1) (oe := p.2) (List.mem_cons_self ..) (pv 0)) pa_nil)) pa_nil))))) pss_nil)
      (pss_one (ps_ret (pe_ifExp (pt_cmp (pc_lt (pv 5) pe_int)) (pe_tup (pa_cons (pe_ix ix_list (pv 1) (pv 5) (fun _ _ => rfl)) (pa_cons pe_str pa_nil))) (pe_tup (pa_cons (pe_ix ix_list (pv 1) (pv 5) (fun _ _ => rfl)) (pa_cons (pe_callB (cr_reprW hgd hun) (by rfl) T.b_repr (by decide +kernel) (pa_cons (pe_xfP (a := p.1) (oe := p.2) (List.mem_cons_self ..) (pv 0)) pa_nil)) pa_nil))))))))))))))))))))), ?_⟩
    have ex := T.et.exc i hi
    have hd0 : ∀ {G : Hp}, Same H G → (p.2.dict = none ∨ ∃ (d : Addr) (fs : List (Str × V)), p.2.dict = some d ∧ G d = some (.xd fs)) := fun s => by
      rcases hz with ⟨_, z, _⟩ | ⟨_, d, v, z, hd, _⟩
      · exact .inl z
      · exact .inr ⟨d, _, z, s _ _ hd⟩
    refine ⟨(by show 7 ≤ sizeLine; decide), fun w1 h1 => gn (hp_new h1 fun G1 s1 g1 => ?_)⟩
    refine ⟨_, rfl, (by show 6 ≤ sizeLine; decide), fun v2 h2 => ⟨_, v2, _, _, rfl, rfl, up h2 _ _ g1, upd_same, (by show 13 ≤ sizeLine; decide), fun w2 h3 => gn (hp_new2 h2 h3 fun G2 s2 g2 => ?_)⟩⟩
    refine ⟨_, rfl, (by show 6 ≤ sizeLine; decide), fun v2 h2 => ⟨_, v2, _, _, rfl, rfl, up h2 _ _ g2, upd_same, (by show 19 ≤ sizeLine; decide), fun w3 h3 => gn (hp_new2 h2 h3 fun G3 s3 g3 => ?_)⟩⟩
    have S3 : Same H G3 := fun _ _ e => s3 _ _ (s2 _ _ (s1 _ _ e))
    have g3 : G3 w3 = some (.lst (ewords.map V.str)) := g3
    refine st_eq [some (.ref p.1), some (.ref w3), none, none, none, none] rfl ?_
    clear g1 g2 s1 s2 s3
    refine ⟨_, rfl, _, _, _, _, rfl, fun _ r => r, hc, ex, hv, hd0 S3, T.et.kit i hi 0 (by decide), ⟨_, rfl, _, _, _, _, rfl, fun _ r => r, hc, ex, hv, hd0 S3, T.et.kit i hi 1 (by decide), ⟨_, rfl, _, _, _, _, rfl, fun _ r => r, hc, ex, hv, hd0 S3, T.et.kit i hi 2 (by decide), ⟨_, rfl, _, _, _, _, rfl, fun _ r => r, hc, ex, hv, hd0 S3, T.et.kit i hi 3 (by decide), ⟨(by show 4 ≤ sizeLine; decide), fun f0 h1 => gn (hp_new h1 fun F0 t0 y0 => ?_)⟩⟩⟩⟩⟩
    have U0 : Same H F0 := fun _ _ e => t0 _ _ (S3 _ _ e)
    refine st_eq [some (.ref p.1), some (.ref w3), some (.ref f0), none, none, none] rfl ?_
    refine ⟨_, rfl, ⟨_, rfl, _, _, _, _, rfl, fun _ r => r, hc, ex, hv, hd0 U0, T.et.kit i hi 4 (by decide), ⟨_, rfl, _, _, _, _, rfl, fun _ r => r, hc, ex, hv, hd0 U0, T.et.kit i hi 5 (by decide), ⟨_, rfl, _, _, _, _, rfl, fun _ r => r, hc, ex, hv, hd0 U0, T.et.kit i hi 6 (by decide), ⟨(by show 3 ≤ sizeLine; decide), fun v2 h2 => ⟨_, v2, _, _, rfl, rfl, up h2 _ _ y0, upd_same, (by show 7 ≤ sizeLine; decide), fun f1 h3 => gn (hp_new2 h2 h3 fun F1 t1 y1 => ?_)⟩⟩⟩⟩⟩⟩
    have U1 : Same H F1 := fun _ _ e => t1 _ _ (U0 _ _ e)
    refine st_eq [some (.ref p.1), some (.ref w3), some (.ref f1), none, none, none] rfl ?_
    refine ⟨_, rfl, ⟨_, rfl, _, _, _, _, rfl, fun _ r => r, hc, ex, hv, hd0 U1, T.et.kit i hi 7 (by decide), ⟨_, rfl, _, _, _, _, rfl, fun _ r => r, hc, ex, hv, hd0 U1, T.et.kit i hi 8 (by decide), ⟨_, rfl, _, _, _, _, rfl, fun _ r => r, hc, ex, hv, hd0 U1, T.et.kit i hi 9 (by decide), ⟨(by show 3 ≤ sizeLine; decide), fun v2 h2 => ⟨_, v2, _, _, rfl, rfl, up h2 _ _ y1, upd_same, (by show 10 ≤ sizeLine; decide), fun f2 h3 => gn (hp_new2 h2 h3 fun F2 t2 y2 => ?_)⟩⟩⟩⟩⟩⟩
    have U2 : Same H F2 := fun _ _ e => t2 _ _ (U1 _ _ e)
    refine st_eq [some (.ref p.1), some (.ref w3), some (.ref f2), none, none, none] rfl ?_
    refine ⟨_, rfl, ⟨_, rfl, _, _, _, _, rfl, fun _ r => r, hc, ex, hv, hd0 U2, T.et.kit i hi 10 (by decide), ⟨_, rfl, _, _, _, _, rfl, fun _ r => r, hc, ex, hv, hd0 U2, T.et.kit i hi 11 (by decide), ⟨_, rfl, _, _, _, _, rfl, fun _ r => r, hc, ex, hv, hd0 U2, T.et.kit i hi 12 (by decide), ⟨(by show 3 ≤ sizeLine; decide), fun v2 h2 => ⟨_, v2, _, _, rfl, rfl, up h2 _ _ y2, upd_same, (by show 13 ≤ sizeLine; decide), fun f3 h3 => gn (hp_new2 h2 h3 fun F3 t3 y3 => ?_)⟩⟩⟩⟩⟩⟩
    have U3 : Same H F3 := fun _ _ e => t3 _ _ (U2 _ _ e)
    refine st_eq [some (.ref p.1), some (.ref w3), some (.ref f3), none, none, none] rfl ?_
    refine ⟨_, rfl, ⟨_, rfl, _, _, _, _, rfl, fun _ r => r, hc, ex, hv, hd0 U3, T.et.kit i hi 13 (by decide), ⟨_, rfl, _, _, _, _, rfl, fun _ r => r, hc, ex, hv, hd0 U3, T.et.kit i hi 14 (by decide), ⟨_, rfl, _, _, _, _, rfl, fun _ r => r, hc, ex, hv, hd0 U3, T.et.kit i hi 15 (by decide), ⟨(by show 3 ≤ sizeLine; decide), fun v2 h2 => ⟨_, v2, _, _, rfl, rfl, up h2 _ _ y3, upd_same, (by show 16 ≤ sizeLine; decide), fun f4 h3 => gn (hp_new2 h2 h3 fun F4 t4 y4 => ?_)⟩⟩⟩⟩⟩⟩
    have U4 : Same H F4 := fun _ _ e => t4 _ _ (U3 _ _ e)
    refine st_eq [some (.ref p.1), some (.ref w3), some (.ref f4), none, none, none] rfl ?_
    refine ⟨_, rfl, ⟨_, rfl, _, _, _, _, rfl, fun _ r => r, hc, ex, hv, hd0 U4, T.et.kit i hi 16 (by decide), ⟨_, rfl, _, _, _, _, rfl, fun _ r => r, hc, ex, hv, hd0 U4, T.et.kit i hi 17 (by decide), ⟨_, rfl, _, _, _, _, rfl, fun _ r => r, hc, ex, hv, hd0 U4, T.et.kit i hi 18 (by decide), ⟨(by show 3 ≤ sizeLine; decide), fun v2 h2 => ⟨_, v2, _, _, rfl, rfl, up h2 _ _ y4, upd_same, (by show 19 ≤ sizeLine; decide), fun f5 h3 => gn (hp_new2 h2 h3 fun F5 t5 y5 => ?_)⟩⟩⟩⟩⟩⟩
    have U5 : Same H F5 := fun _ _ e => t5 _ _ (U4 _ _ e)
    refine st_eq [some (.ref p.1), some (.ref w3), some (.ref f5), none, none, none] rfl ?_
    have y5 : F5 f5 = some (.lst (fitsL i)) := y5
    have m3 : F5 w3 = some (.lst (ewords.map V.str)) := t5 _ _ (t4 _ _ (t3 _ _ (t2 _ _ (t1 _ _ (t0 _ _ g3)))))
    clear y0 y1 y2 y3 y4 t0 t1 t2 t3 t4 t5 U0 U1 U2 U3 U4
    refine ⟨_, rfl, _, _, _, _, rfl, fun _ r => r, hc, ex, hv, hd0 U5, T.et.kb i hi 0 (by decide), ⟨_, rfl, _, _, _, _, rfl, fun _ r => r, hc, ex, hv, hd0 U5, T.et.kb i hi 1 (by decide), ⟨_, rfl, _, _, _, _, rfl, fun _ r => r, hc, ex, hv, hd0 U5, T.et.kb i hi 2 (by decide),
      ⟨(by show 3 ≤ sizeLine; decide), fun b1 h1 => gn (hp_new h1 fun B1 r1 q1 => ?_)⟩⟩⟩⟩
    have U6 : Same H B1 := fun _ _ e => r1 _ _ (U5 _ _ e)
    refine ⟨_, rfl, _, _, _, _, rfl, fun _ r => r, hc, ex, hv, hd0 U6, T.et.ko i hi 0 (by decide), ⟨_, rfl, _, _, _, _, rfl, fun _ r => r, hc, ex, hv, hd0 U6, T.et.ko i hi 1 (by decide), ⟨_, rfl, _, _, _, _, rfl, fun _ r => r, hc, ex, hv, hd0 U6, T.et.ko i hi 2 (by decide),
      ⟨(by show 3 ≤ sizeLine; decide), fun b2 h1 => gn (hp_new h1 fun B2 r2 q2 => ?_)⟩⟩⟩⟩
    have U7 : Same H B2 := fun _ _ e => r2 _ _ (U6 _ _ e)
    have q1 := r2 _ _ q1
    have y5 := r2 _ _ (r1 _ _ y5)
    have m3 := r2 _ _ (r1 _ _ m3)
    clear r1 r2 U5 U6 g3 S3
    refine st_eq [some (.ref p.1), some (.ref w3), some (.ref f5), some (.ref b1), some (.ref b2), none] rfl ?_
    have cnt : ((fitsL i).countP fun z => eqV z (.bl true)) = 1 := fits_cnt ⟨i, hi⟩
    have fat : (fitsL i)[i]? = some (.bl true) := fits_at ⟨i, hi⟩
    have ffl : (fitsL i).all flatV = true := fits_flat ⟨i, hi⟩
    have ewi : (ewords.map V.str)[i]? = some (.str (ew i)) := by rw [List.getElem?_map, ew_at ⟨i, hi⟩]; rfl
    have fno : ∀ (m : Nat) (z' : V), m < i → (fitsL i)[m]? = some z' → eqV z' (.bl true) = false := fun m z' hm e => by
      have z := fits_no ⟨i, hi⟩ ⟨m, by omega⟩ hm
      rw [z] at e
      cases e
      rfl
    refine ⟨_, rfl, .inl ⟨rfl, _, SqL.of y5⟩, f5, _, _, rfl, rfl, SqL.of y5, rfl, ffl, ?_⟩
    refine ⟨_, _, rfl, rfl, _, rfl, ifd_pos (by show (((fitsL i).countP fun z => eqV z (.bl true) : Nat) : Int) = 1; rw [cnt]; rfl) ?_⟩
    refine ⟨_, rfl, .inl ⟨rfl, _, SqL.of y5⟩, f5, _, _, i, .bl true, rfl, rfl, SqL.of y5, rfl, ffl, fat, rfl, fno, gn ?_⟩
    refine st_eq [some (.ref p.1), some (.ref w3), some (.ref f5), some (.ref b1), some (.ref b2), some (.int (i : Int))] rfl ?_
    clear cnt fat ffl fno y5
    have dl : ∀ {G : Hp} {b : Addr} {x y z : Bool}, G b = some (.lst [.bl x, .bl y, .bl z]) → Dp K G (.ref b) (.list [.bool x, .bool y, .bool z]) := fun h => .lst (SqL.of h) (.cons (.bl _) (.cons (.bl _) (.cons (.bl _) .nil)))
    have ev : ∀ x y z : Bool, PyData.eqv (.list [.bool x, .bool y, .bool z]) (.list [.bool x, .bool y, .bool z]) = true := fun x y z => by cases x <;> cases y <;> cases z <;> rfl
    refine ⟨_, rfl, _, rfl, _, _, dl q1, dl q2, rfl, rfl, false, by rw [ev]; rfl, iteF ?_⟩
    have c3 : i < 13 ∨ (12 < i ∧ i < 16) ∨ 15 < i := by omega
    have wd : ∀ {G : Hp}, Same B2 G → atI (ewords.map V.str) (i : Int) = some (.str (ew i)) ∧ SqL K G w3 (ewords.map V.str) := fun s => ⟨atI_nat ewi, SqL.of (s _ _ m3)⟩
    rcases c3 with c | c | c
    · have e0 : eb i = 0 := if_pos c
      refine ⟨_, rfl, _, rfl, _, _, rfl, rfl, _, rfl, _, _, rfl, rfl, _, rfl, ifd_neg (by show ¬ (12 : Int) < i; omega) ?_⟩
      refine ⟨_, rfl, _, _, rfl, rfl, _, rfl, ifd_neg (by show ¬ (15 : Int) < i; omega) ⟨(by show 3 ≤ sizeLine; decide), fun l hl => ?_⟩⟩
      refine ⟨_, _, dl (up hl _ _ q1), dl upd_same, rfl, rfl, false, eqv3 (by rw [e0]; exact (decide_eq_true (show (i : Int) < 13 by omega)).symm) (by rw [e0]; rfl) (by rw [e0]; rfl), iteF ?_⟩
      obtain ⟨d, v, z1, z2, z3⟩ : ∃ (d : Addr) (v : V), p.2.dict = some d ∧ H d = some (.xd [(ef i, v)]) ∧ Shw K H v z := by
        rcases hz with ⟨z, _⟩ | ⟨_, z⟩
        · omega
        · exact z
      obtain ⟨w1, w2⟩ := wd (up (o := .lst [.bl (decide ((i : Int) < 13)), .bl false, .bl false]) hl)
      have sl : Same H (upd B2 l (.lst [.bl (decide ((i : Int) < 13)), .bl false, .bl false])) := fun _ _ e => up hl _ _ (U7 _ _ e)
      refine ⟨_, rfl, _, _, rfl, rfl, _, rfl, ifd (fun c9 => ?_) (fun c9 => ?_)⟩
      · have c9 : (i : Int) < 9 := c9
        have ee : ef i = "value" := if_pos (by omega)
        rw [ee] at z2
        refine ⟨_, rfl, _, rfl, w3, _, _, _, rfl, rfl, w2, w1, _, rfl, rfl, _, d, _, v, hc, z1, hv, T.et.xf i hi, T.et.no i hi "value" (by simp), sl _ _ z2, rfl, v, z, rfl, Shw.same sl z3, (by show 2 ≤ sizeLine; decide), fun t ht => ?_⟩
        exact k t _ (fun _ _ e => up ht _ _ (sl _ _ e)) upd_same
      · have c9 : ¬ (i : Int) < 9 := c9
        have ee : ef i = "index" := by unfold ef; rw [if_neg (by omega), if_pos c]
        rw [ee] at z2
        refine ⟨_, rfl, _, _, rfl, rfl, _, rfl, ifd_pos (by show (i : Int) < 13; omega) ?_⟩
        refine ⟨_, rfl, _, rfl, w3, _, _, _, rfl, rfl, w2, w1, _, rfl, rfl, _, d, _, v, hc, z1, hv, T.et.xf i hi, T.et.no i hi "index" (by simp), sl _ _ z2, rfl, v, z, rfl, Shw.same sl z3, (by show 2 ≤ sizeLine; decide), fun t ht => ?_⟩
        exact k t _ (fun _ _ e => up ht _ _ (sl _ _ e)) upd_same
    · have e0 : eb i = 1 := by unfold eb; rw [if_neg (by omega), if_pos c.2]
      refine ⟨_, rfl, _, rfl, _, _, rfl, rfl, _, rfl, _, _, rfl, rfl, _, rfl, ifd_pos (by show (12 : Int) < i; omega) ⟨_, _, rfl, rfl, ?_⟩⟩
      refine ⟨_, rfl, _, _, rfl, rfl, _, rfl, ifd_neg (by show ¬ (15 : Int) < i; omega) ⟨(by show 3 ≤ sizeLine; decide), fun l hl => ?_⟩⟩
      refine ⟨_, _, dl (up hl _ _ q1), dl upd_same, rfl, rfl, false, eqv3 (by rw [e0]; exact (decide_eq_false (show ¬ (i : Int) < 13 by omega)).symm) (by rw [e0]; exact (decide_eq_true (show (i : Int) < 16 by omega)).symm) (by rw [e0]; rfl), iteF ?_⟩
      have zz : z = Str.empty := by
        rcases hz with ⟨_, _, z⟩ | ⟨z, _⟩
        · exact z
        · exact absurd e0 z
      obtain ⟨w1, w2⟩ := wd (up (o := .lst [.bl (decide ((i : Int) < 13)), .bl (decide ((i : Int) < 16)), .bl false]) hl)
      refine ⟨_, rfl, _, _, rfl, rfl, _, rfl, ifd_neg (by show ¬ (i : Int) < 9; omega) ?_⟩
      refine ⟨_, rfl, _, _, rfl, rfl, _, rfl, ifd_neg (by show ¬ (i : Int) < 13; omega) ?_⟩
      refine ⟨_, rfl, _, _, rfl, rfl, _, rfl, ifd_pos (by show (i : Int) < 16; omega) ?_⟩
      refine ⟨_, rfl, _, rfl, w3, _, _, _, rfl, rfl, w2, w1, (by show 2 ≤ sizeLine; decide), fun t ht => ?_⟩
      refine k t _ (fun _ _ e => up ht _ _ (up hl _ _ (U7 _ _ e))) ?_
      rw [zz]
      exact upd_same
    · have e0 : eb i = 2 := by unfold eb; rw [if_neg (by omega), if_neg (by omega)]
      refine ⟨_, rfl, _, rfl, _, _, rfl, rfl, _, rfl, _, _, rfl, rfl, _, rfl, ifd_pos (by show (12 : Int) < i; omega) ⟨_, _, rfl, rfl, ?_⟩⟩
      refine ⟨_, rfl, _, _, rfl, rfl, _, rfl, ifd_pos (by show (15 : Int) < i; omega) ⟨_, _, rfl, rfl, (by show 3 ≤ sizeLine; decide), fun l hl => ?_⟩⟩
      refine ⟨_, _, dl (up hl _ _ q1), dl upd_same, rfl, rfl, false, eqv3 (by rw [e0]; exact (decide_eq_false (show ¬ (i : Int) < 13 by omega)).symm) (by rw [e0]; exact (decide_eq_false (show ¬ (i : Int) < 16 by omega)).symm) (by rw [e0]; exact (decide_eq_true (show (i : Int) < 19 by omega)).symm), iteF ?_⟩
      obtain ⟨d, v, z1, z2, z3⟩ : ∃ (d : Addr) (v : V), p.2.dict = some d ∧ H d = some (.xd [(ef i, v)]) ∧ Shw K H v z := by
        rcases hz with ⟨z, _⟩ | ⟨_, z⟩
        · omega
        · exact z
      obtain ⟨w1, w2⟩ := wd (up (o := .lst [.bl (decide ((i : Int) < 13)), .bl (decide ((i : Int) < 16)), .bl (decide ((i : Int) < 19))]) hl)
      have sl : Same H (upd B2 l (.lst [.bl (decide ((i : Int) < 13)), .bl (decide ((i : Int) < 16)), .bl (decide ((i : Int) < 19))])) := fun _ _ e => up hl _ _ (U7 _ _ e)
      have ee : ef i = "limit" := by unfold ef; rw [if_neg (by omega), if_neg (by omega)]
      rw [ee] at z2
      refine ⟨_, rfl, _, _, rfl, rfl, _, rfl, ifd_neg (by show ¬ (i : Int) < 9; omega) ?_⟩
      refine ⟨_, rfl, _, _, rfl, rfl, _, rfl, ifd_neg (by show ¬ (i : Int) < 13; omega) ?_⟩
      refine ⟨_, rfl, _, _, rfl, rfl, _, rfl, ifd_neg (by show ¬ (i : Int) < 16; omega) ?_⟩
      refine ⟨_, rfl, _, rfl, w3, _, _, _, rfl, rfl, w2, w1, _, rfl, rfl, _, d, _, v, hc, z1, hv, T.et.xf i hi, T.et.no i hi "limit" (by simp), sl _ _ z2, rfl, v, z, rfl, Shw.same sl z3, (by show 2 ≤ sizeLine; decide), fun t ht => ?_⟩
      exact k t _ (fun _ _ e => up ht _ _ (sl _ _ e)) upd_same
end
/-! ### the law's purse: what is drawn lies in its range, and nothing else is told of it -/
def PurseAt (H : Hp) (p : Addr) : Prop := ∃ m d c : Int, H p = some (.lst [.int m, .int d, .int c]) ∧ 0 ≤ m ∧ m < 2147483629 ∧ 0 ≤ d ∧ 0 ≤ c
theorem PurseAt.of {H : Hp} {p : Addr} {m d c : Int} (h : H p = some (.lst [.int m, .int d, .int c])) (h1 : 0 ≤ m) (h2 : m < 2147483629) (h3 : 0 ≤ d) (h4 : 0 ≤ c) : PurseAt H p := ⟨m, d, c, h, h1, h2, h3, h4⟩
/-- behind draws: the purse is one, all else stands -/
structure Drew (p : Addr) (H H' : Hp) : Prop where
  at_ : PurseAt H' p
  kp : Kp p H H'
theorem Drew.refl {p : Addr} {H : Hp} (h : PurseAt H p) : Drew p H H := ⟨h, Kp.refl p H⟩
theorem Drew.trans {p : Addr} {H H1 H2 : Hp} (a : Drew p H H1) (b : Drew p H1 H2) : Drew p H H2 := ⟨b.at_, a.kp.trans b.kp⟩
/-- a new object beside the purse -/
theorem Drew.new {p q : Addr} {H H' : Hp} {o : HO} (a : Drew p H H') (h : H' q = none) : Drew p H (upd H' q o) := by
  obtain ⟨m, d, c, e, r⟩ := a.at_
  exact ⟨⟨m, d, c, by rw [upd_ne (ne_of_none e h)]; exact e, r⟩, a.kp.new h⟩
/-- new things beside the purse -/
theorem Drew.same {p : Addr} {H H1 H2 : Hp} (a : Drew p H H1) (b : Same H1 H2) : Drew p H H2 := by
  obtain ⟨m, d, c, e, r⟩ := a.at_
  exact ⟨⟨m, d, c, b _ _ e, r⟩, fun x o n h => b _ _ (a.kp x o n h)⟩
def spRight : Sp := fun vs H Q _ => ∃ (p : Addr), vs = [.ref p] ∧ PurseAt H p ∧ ∀ H', Drew p H H' → Q (.bl true) H'
def spCell (K : PySem.W.Frag) : Sp := fun vs H Q _ => ∃ (a : Addr) (ns : List Int) (k : Int), vs = [.ref a, .int k] ∧ SqL K H a (ns.map V.int) ∧ 0 ≤ k ∧ k ≤ 1000 ∧ ∀ z H', Same H H' → Q (.int z) H'
def spPurse : Sp := fun vs H Q _ => ∃ c : Int, vs = [.int c] ∧ ∀ p H', H p = none → Same H H' → PurseAt H' p → Q (.ref p) H'
def spTake : Sp := fun vs H Q _ => ∃ (p : Addr) (n : Int), vs = [.ref p, .int n] ∧ PurseAt H p ∧ 0 < n ∧ n ≤ 1000000000000000000000000000000 ∧ ∀ r H', 0 ≤ r → r < n → Drew p H H' → Q (.int r) H'
/-- a number between two is drawn -/
def spDraw (lo hi : Int) : Sp := fun vs H Q _ => ∃ (p : Addr), vs = [.ref p] ∧ PurseAt H p ∧ ∀ r H', lo ≤ r → r ≤ hi → Drew p H H' → Q (.int r) H'
def spWide : Sp := fun vs H Q _ => ∃ (p : Addr) (n : Int), vs = [.ref p, .int n] ∧ PurseAt H p ∧ 0 < n ∧ ∀ r H', 0 ≤ r → r < n → Drew p H H' → Q (.int r) H'
theorem cutV_ints (ns : List Int) (lo hi : Option Int) : ∃ ms : List Int, cutV (ns.map V.int) lo hi = ms.map V.int := by
  unfold cutV
  exact ⟨_, by rw [← List.map_drop, ← List.map_take]⟩
theorem item_int {ns : List Int} {i : Nat} {x : V} (h : (ns.map V.int)[i]? = some x) : ∃ z, x = .int z := by
  rw [List.getElem?_map] at h
  cases e : ns[i]? with
  | none =>
    rw [e] at h
    cases h
  | some z =>
    rw [e] at h
    exact ⟨z, (Option.some.inj h).symm⟩
section
variable {P : Program} {w : World} {K : PySem.W.Frag} {mg : Str → Option Value} {base : Heap}
theorem ok_L_cell (T : Tx K mg) : Prom P w K mg base CX0 1 "_law_cell" s_L_cell ["_law_script", "_law_k"] (spCell K) := by
  refine Prom.of T.d_L_cell sc_L_cell (fun vs H Q E h => ?_) (fun _ _ _ _ _ _ us hl => match us, hl with | [_, _], _ => rfl) (fun f cdv A outer s H vs Q E hr h => ?_)
  · obtain ⟨a, ns, n, rfl, _⟩ := h
    rfl
  · obtain ⟨a, ns, n, rfl, hS, h0, h1, k⟩ := h
    refine ⟨_, (pss_cons (ps_if (pt_cmp (pc_lt (pv 1) (pe_callB call_len_seq (by rfl) T.b_len (by decide +kernel) (pa_cons (pv 0) pa_nil)))) (pss_one (ps_ret (pe_ix ix_list (pv 0) (pv 1) (fun _ _ => rfl)))) pss_nil)
      (pss_cons (ps_set (i := 2) sc_L_cell.nd rfl (Or.inl rfl) (pe_op op_add (pe_op op_add (pe_op op_mul (pe_op op_mul pe_int (pv 1)) (pv 1)) (pe_op op_mul pe_int (pv 1))) pe_int))
      (pss_cons (ps_for PassesOwn.never (by rfl) (pi_list (pe_slice sl_list (pv 0) po_none (po_some pe_int))) (pg_name (i := 3) sc_L_cell.nd rfl (Or.inl rfl)) (pss_one (ps_set (i := 2) sc_L_cell.nd rfl (Or.inl rfl) (pe_op op_mod (pe_callTy call_int1 (by rfl) T.b_int (by decide +kernel) (pa_cons (pe_op op_add (pe_op op_add (pe_op op_mul (pv 2) pe_int) (pv 3)) pe_int) pa_nil)) pe_int))))
      (pss_one (ps_ret (pv 2)))))), ?_⟩
    refine ⟨_, rfl, _, rfl, _, _, rfl, .inl hS, _, _, rfl, rfl, _, rfl, ifd (fun c => ?_) (fun c => ?_)⟩
    · rw [List.length_map] at c
      have hi : n.toNat < ns.length := by omega
      obtain ⟨z, hz⟩ : ∃ z, ns[n.toNat]? = some z := ⟨_, List.getElem?_eq_getElem hi⟩
      have ez : (ns.map V.int)[n.toNat]? = some (V.int z) := by rw [List.getElem?_map, hz]; rfl
      exact ⟨_, rfl, _, rfl, _, _, _, _, rfl, rfl, hS, at_of (show n = ((n.toNat : Nat) : Int) by omega) ez, k z H (Same.refl H)⟩
    · refine ⟨_, rfl, _, _, rfl, rfl, .inl ⟨by decide, by decide⟩, _, rfl, _, _, rfl, rfl, .inr ⟨by omega, by omega⟩, ?_⟩
      refine ⟨_, rfl, _, _, rfl, rfl, .inl ⟨by decide, by decide⟩, _, _, rfl, rfl, _, _, rfl, rfl, ?_⟩
      obtain ⟨ms, hms⟩ := cutV_ints ns none (some 4)
      refine ⟨_, rfl, _, rfl, a, _, rfl, hS, fun p hp => ?_⟩
      rw [hms]
      refine ⟨p, rfl, ⟨_, SqL.of upd_same⟩, for_list (K := K) (a := p) (xs := ms.map V.int) (fun i σ H' => Same (upd H p (.lst (ms.map V.int))) H' ∧ ∃ m v, σ = [some (.ref a), some (.int n), some (.int m), v]) ⟨Same.refl _, _, none, rfl⟩ (fun i σ H' _ h => SqL.of (h.1 _ _ upd_same)) ?_ ?_⟩
      · rintro i x σ H' hi ⟨hs, m, v, rfl⟩
        obtain ⟨z, rfl⟩ := item_int hi
        refine ⟨_, rfl, _, _, rfl, rfl, .inr ⟨by decide, by decide⟩, _, rfl, _, _, rfl, rfl, _, _, rfl, rfl, .inl ⟨_, rfl, ?_⟩⟩
        exact ⟨_, _, rfl, rfl, (show (0 : Int) < 2147483629 by decide), hs, _, _, rfl⟩
      · rintro σ H' ⟨hs, m, v, rfl⟩
        exact ⟨_, rfl, k m H' (Same.trans (fun b o e => by rw [upd_ne (ne_of_none e hp)]; exact e) hs)⟩
theorem ok_L_purse (T : Tx K mg) : Prom P w K mg base CX0 1 "_law_purse" s_L_purse ["_law_cell_here"] spPurse := by
  refine Prom.of T.d_L_purse sc_L_purse (fun vs H Q E h => ?_) (fun _ _ _ _ _ _ us hl => match us, hl with | [_], _ => rfl) (fun f cdv A outer s H vs Q E hr h => ?_)
  · obtain ⟨c, rfl, _⟩ := h
    rfl
  · obtain ⟨c, rfl, k⟩ := h
    refine ⟨_, (pss_cons (ps_set (i := 1) sc_L_purse.nd rfl (Or.inl rfl) (pe_op op_mod (pe_callTy call_int1 (by rfl) T.b_int (by decide +kernel) (pa_cons (pv 0) pa_nil)) pe_int))
      (pss_cons (ps_set (i := 2) sc_L_purse.nd rfl (Or.inl rfl) (pe_op op_mod (pe_callTy call_int1 (by rfl) T.b_int (by decide +kernel) (pa_cons (pe_op op_add (pe_op op_mul (pv 1) pe_int) pe_int) pa_nil)) pe_int))
      (pss_cons (ps_set (i := 2) sc_L_purse.nd rfl (Or.inl rfl) (pe_op op_mod (pe_callTy call_int1 (by rfl) T.b_int (by decide +kernel) (pa_cons (pe_op op_add (pe_op op_add (pe_op op_mul (pv 2) (pv 2)) (pe_op op_mul pe_int (pv 1))) pe_int) pa_nil)) pe_int))
      (pss_one (ps_ret (pe_lst (pa_cons (pv 2) (pa_cons (pe_ifExp (PW.pt (pw_or (pt_cmp (pc_lt (pv 0) pe_int)) (pw_or1 (pt_cmp (pc_ge (pv 0) (pe_op op_pow pe_int pe_int)))))) (pe_op op_mod (pe_callTy call_int1 (by rfl) T.b_int (by decide +kernel) (pa_cons (pe_callB call_abs (by rfl) T.b_abs (by decide +kernel) (pa_cons (pv 0) pa_nil)) pa_nil)) (pe_op op_powW (pe_op op_pow pe_int pe_int) pe_int)) pe_int) (pa_cons pe_int pa_nil))))))))), ?_⟩
    have d0 : (0 : Int) < 2147483629 := by decide
    refine ⟨_, rfl, .inl ⟨_, rfl, _, _, rfl, rfl, d0, ?_⟩⟩
    have a1 := Int.emod_nonneg c (show (2147483629 : Int) ≠ 0 by decide)
    have a2 := Int.emod_lt_of_pos c d0
    refine ⟨_, rfl, _, _, rfl, rfl, .inr ⟨by decide, by decide⟩, _, _, rfl, rfl, .inl ⟨_, rfl, _, _, rfl, rfl, d0, ?_⟩⟩
    have b1 : 0 ≤ (c % 2147483629 * 69809 + 1013) % 2147483629 := Int.emod_nonneg _ (by decide)
    have b2 : (c % 2147483629 * 69809 + 1013) % 2147483629 < 2147483629 := Int.emod_lt_of_pos _ d0
    refine ⟨_, rfl, _, rfl, _, _, rfl, rfl, .inl ⟨by omega, by omega⟩, _, rfl, _, _, rfl, rfl, .inl ⟨by decide, by decide⟩, _, _, rfl, rfl, _, _, rfl, rfl, .inl ⟨_, rfl, _, _, rfl, rfl, d0, ?_⟩⟩
    have fin : ∀ x d : Int, 0 ≤ d → ∀ p, H p = none → Q (.ref p) (upd H p (.lst [.int (x % 2147483629), .int d, .int 0])) := fun x d hd p hp =>
      k p _ hp (fun b o e => by rw [upd_ne (ne_of_none e hp)]; exact e) (PurseAt.of upd_same (Int.emod_nonneg _ (by decide)) (Int.emod_lt_of_pos _ d0) hd (Int.le_refl 0))
    refine ⟨_, rfl, _, rfl, _, _, rfl, rfl, _, rfl, ifd (fun h1 => iteT ?_) (fun h1 => ?_)⟩
    · refine ⟨_, rfl, _, rfl, .inl ⟨_, rfl, _, _, rfl, rfl, ⟨by decide, by decide, by decide⟩, _, _, rfl, rfl, ⟨by decide, by decide, 200, by decide, by decide⟩, _, _, rfl, rfl, (by show (0 : Int) < (10 ^ (50 : Int).toNat) ^ (16 : Int).toNat; decide), ?_⟩⟩
      exact ⟨(by show 3 ≤ sizeLine; decide), fun p hp => fin _ _ (Int.emod_nonneg _ (by decide)) p hp⟩
    refine ⟨_, rfl, _, _, rfl, rfl, ⟨by decide, by decide, by decide⟩, _, _, rfl, rfl, _, rfl, ifd (fun h2 => ?_) (fun h2 => ?_)⟩
    · refine ⟨_, rfl, _, rfl, .inl ⟨_, rfl, _, _, rfl, rfl, ⟨by decide, by decide, by decide⟩, _, _, rfl, rfl, ⟨by decide, by decide, 200, by decide, by decide⟩, _, _, rfl, rfl, (by show (0 : Int) < (10 ^ (50 : Int).toNat) ^ (16 : Int).toNat; decide), ?_⟩⟩
      exact ⟨(by show 3 ≤ sizeLine; decide), fun p hp => fin _ _ (Int.emod_nonneg _ (by decide)) p hp⟩
    · exact ⟨(by show 3 ≤ sizeLine; decide), fun p hp => fin _ 0 (Int.le_refl 0) p hp⟩
theorem ok_L_take (T : Tx K mg) : Prom P w K mg base CX0 1 "_law_take" s_L_take ["_law_purse_here", "_law_many"] spTake := by
  refine Prom.of T.d_L_take sc_L_take (fun vs H Q E h => ?_) (fun _ _ _ _ _ _ us hl => match us, hl with | [_, _], _ => rfl) (fun f cdv A outer s H vs Q E hr h => ?_)
  · obtain ⟨p, n, rfl, _⟩ := h
    rfl
  · obtain ⟨p, n, rfl, ⟨m, d, c, hp, h1, h2, h3, h4⟩, hn, hn2, k⟩ := h
    refine ⟨_, (pss_cons (ps_asg (pe_op op_add (pe_ix ix_list (pv 0) pe_int (fun _ _ => rfl)) pe_int) (pg_sub (pv 0) pe_int set_list))
      (pss_cons (ps_if (pt_cmp (pc_gt (pe_ix ix_list (pv 0) pe_int (fun _ _ => rfl)) pe_int)) (pss_cons (ps_asg (pe_callB call_divmodW (by rfl) T.b_divmod (by decide +kernel) (pa_cons (pe_ix ix_list (pv 0) pe_int (fun _ _ => rfl)) (pa_cons (pv 1) pa_nil))) (pg_tup rfl (pgs_cons (pg_sub (pv 0) pe_int set_list) (pgs_cons (pg_name (i := 2) sc_L_take.nd rfl (Or.inl rfl)) pgs_nil))))
      (pss_one (ps_ret (pv 2)))) pss_nil)
      (pss_cons (ps_set (i := 3) sc_L_take.nd rfl (Or.inl rfl) (pe_callTy call_int1 (by rfl) T.b_int (by decide +kernel) (pa_cons (pe_ix ix_list (pv 0) pe_int (fun _ _ => rfl)) pa_nil)))
      (pss_cons (ps_asg (pe_op op_mod (pe_callTy call_int1 (by rfl) T.b_int (by decide +kernel) (pa_cons (pe_op op_add (pe_op op_add (pe_op op_mul (pv 3) (pv 3)) (pe_op op_mul pe_int (pe_ix ix_list (pv 0) pe_int (fun _ _ => rfl)))) pe_int) pa_nil)) pe_int) (pg_sub (pv 0) pe_int set_list))
      (pss_one (ps_ret (pe_op op_mod (pe_callTy call_int1 (by rfl) T.b_int (by decide +kernel) (pa_cons (pe_op op_fdiv (pe_ix ix_list (pv 0) pe_int (fun _ _ => rfl)) pe_int) pa_nil)) (pv 1)))))))), ?_⟩
    refine ⟨_, rfl, _, _, _, _, rfl, rfl, SqL.of hp, rfl, _, _, rfl, rfl, _, rfl, _, _, _, _, rfl, rfl, hp, rfl, ?_⟩
    have e1 : (upd H p (.lst ([V.int m, V.int d, V.int c].set 2 (V.int (c + 1))))) p = some (.lst [.int m, .int d, .int (c + 1)]) := upd_same
    refine ⟨_, rfl, _, _, _, _, rfl, rfl, SqL.of e1, rfl, _, _, rfl, rfl, _, rfl, ifd (fun c1 => ?_) (fun c1 => ?_)⟩
    · refine ⟨_, rfl, _, _, _, _, rfl, rfl, SqL.of e1, rfl, _, rfl, _, _, rfl, divp_small hn hn2, fun q hq => ?_⟩
      have nq : p ≠ q := ne_of_none e1 hq
      refine ⟨q, _, rfl, SqT.of upd_same, rfl, _, _, rfl, ?_⟩
      refine ⟨_, rfl, _, _, _, _, rfl, rfl, (by rw [upd_ne nq]; exact e1), rfl, ?_⟩
      refine ⟨_, _, rfl, rfl, ?_⟩
      refine ⟨_, rfl, k _ _ (Int.emod_nonneg _ (by omega)) (Int.emod_lt_of_pos _ hn) ⟨PurseAt.of upd_same h1 h2 (Int.ediv_nonneg (by omega) (by omega)) (by omega), ?_⟩⟩
      exact Kp.set (Kp.new (Kp.set (Kp.refl p H)) hq)
    · refine ⟨_, rfl, _, _, _, _, rfl, rfl, SqL.of e1, rfl, .inl ⟨_, rfl, ?_⟩⟩
      refine ⟨_, rfl, _, rfl, _, _, rfl, rfl, .inl ⟨by omega, by omega⟩, _, rfl, _, _, _, _, rfl, rfl, SqL.of e1, rfl, _, _, rfl, rfl, .inl ⟨by decide, by decide⟩, _, _, rfl, rfl, _, _, rfl, rfl, .inl ⟨_, rfl, _, _, rfl, rfl, (show (0 : Int) < 2147483629 by decide), ?_⟩⟩
      refine ⟨_, rfl, _, _, _, _, rfl, rfl, e1, rfl, ?_⟩
      have c2 : 0 ≤ (m * m + 39119 * (c + 1) + 271) % 2147483629 := Int.emod_nonneg _ (by decide)
      have c3 : (m * m + 39119 * (c + 1) + 271) % 2147483629 < 2147483629 := Int.emod_lt_of_pos _ (by decide)
      refine ⟨_, rfl, _, _, _, _, rfl, rfl, SqL.of upd_same, rfl, _, _, rfl, rfl, ⟨by decide, by decide⟩, .inl ⟨_, rfl, _, rfl, _, _, rfl, rfl, hn, ?_⟩⟩
      refine k _ _ (Int.emod_nonneg _ (by omega)) (Int.emod_lt_of_pos _ hn) ⟨PurseAt.of upd_same c2 c3 h3 (by omega), ?_⟩
      exact Kp.set (Kp.set (Kp.refl p H))
end
/-! ### draws, and tables that grow -/
theorem strOk_of (s : String) : PyData.strOk (Str.ofString s) = true := by
  unfold PyData.strOk
  rw [Str.ofString_eq_toList]
  simp only [List.all_toArray, List.all_eq_true, decide_eq_true_eq]
  intro c hc
  obtain ⟨d, _, rfl⟩ := List.mem_map.mp hc
  rcases d.valid with h | h
  · exact Nat.lt_trans h (by decide)
  · exact h.2
theorem PurseAt.same {p : Addr} {H H' : Hp} (h : PurseAt H p) (s : Same H H') : PurseAt H' p := by
  obtain ⟨m, d, c, e, r⟩ := h
  exact ⟨m, d, c, s _ _ e, r⟩
theorem PurseAt.lst {p : Addr} {H : Hp} (h : PurseAt H p) : ∃ xs, H p = some (.lst xs) := by
  obtain ⟨_, _, _, e, _⟩ := h
  exact ⟨_, e⟩
theorem PurseAt.ne {p l : Addr} {H : Hp} (h : PurseAt H p) (hl : H l = none) : l ≠ p := by
  obtain ⟨_, e⟩ := h.lst
  exact Ne.symm (ne_of_none e hl)
/-- all but p and the tables stand as they stood -/
structure DrewT (p : Addr) (H H' : Hp) : Prop where
  at_ : PurseAt H' p
  kp : ∀ b o, b ≠ p → (∀ ps, o ≠ .tbl ps) → H b = some o → H' b = some o
theorem Drew.t {p : Addr} {H H' : Hp} (d : Drew p H H') : DrewT p H H' := ⟨d.at_, fun b o n _ h => d.kp b o n h⟩
theorem DrewT.trans {p : Addr} {H H1 H2 : Hp} (a : DrewT p H H1) (b : DrewT p H1 H2) : DrewT p H H2 := ⟨b.at_, fun x o n t h => b.kp x o n t (a.kp x o n t h)⟩
theorem DrewT.same {p : Addr} {H H1 H2 : Hp} (a : DrewT p H H1) (b : Same H1 H2) : DrewT p H H2 := ⟨a.at_.same b, fun x o n t h => b _ _ (a.kp x o n t h)⟩
theorem DrewT.refl {p : Addr} {H : Hp} (h : PurseAt H p) : DrewT p H H := ⟨h, fun _ _ _ _ h => h⟩
theorem tabs_drewT {K : PySem.W.Frag} {T : List (Addr × Str)} {p : Addr} {H H' : Hp} (hp : PurseAt H p) (d : Drew p H H') (h : LamX.Tabs T H) : LamX.Tabs T H' := by
  intro q hq
  obtain ⟨xs, e⟩ := hp.lst
  obtain ⟨ps, h1, h2, h3⟩ := h q hq
  refine ⟨ps, d.kp _ _ (fun z => by rw [z, e] at h1; cases h1) h1, h2, fun pos cv hc => ?_⟩
  obtain ⟨c, e1, e2⟩ := h3 pos cv hc
  exact ⟨c, e1, d.kp _ _ (fun z => by rw [z, e] at e2; cases e2) e2⟩
theorem ext_drewT {p : Addr} {H H' : Hp} (hp : PurseAt H p) (e : LamX.ExtN H H') : DrewT p H H' := by
  obtain ⟨m, d, c, h, r⟩ := hp
  exact ⟨⟨m, d, c, e _ _ h (fun ps z => by cases z), r⟩, fun b o _ t h => e b o h t⟩
theorem sqT_drewT {K : PySem.W.Frag} {p a : Addr} {H H' : Hp} {xs : List V} (hp : PurseAt H p) (d : DrewT p H H') (h : SqT K H a xs) : SqT K H' a xs := by
  obtain ⟨ys, e⟩ := hp.lst
  rcases h with (h | ⟨o, h⟩) | h
  · exact .inl (.inl (d.kp _ _ (fun z => by rw [z, e] at h; cases h) (fun ps z => by cases z) h))
  · exact .inl (.inr ⟨o, d.kp _ _ (fun z => by rw [z, e] at h; cases h) (fun ps z => by cases z) h⟩)
  · exact .inr h
section
variable {P : Program} {w : World} {K : PySem.W.Frag} {mg : Str → Option Value} {base : Heap}
theorem ok_L_radix (T : Tx K mg) : Prom P w K mg base CX0 2 "_law_radix" s_L_radix ["_law_purse_here"] (spDraw 2 256) := by
  refine Prom.of T.d_L_radix sc_L_radix (fun vs H Q E h => ?_) (fun _ _ _ _ _ _ us hl => match us, hl with | [_], _ => rfl) (fun f cdv A outer s H vs Q E hr h => ?_)
  · obtain ⟨p, rfl, _⟩ := h
    rfl
  · obtain ⟨p, rfl, hp, k⟩ := h
    refine ⟨_, (pss_cons (ps_set (i := 1) sc_L_radix.nd rfl (Or.inl rfl) (pe_callP (ok_L_take T) (hr.mono (by decide)) (by rfl) pass0 (pa_cons (pv 0) (pa_cons pe_int pa_nil))))
      (pss_one (ps_ret (pe_ifExp (pt_cmp (pc_lt (pv 1) pe_int)) (pe_ix ix_list (pe_lst (pa_cons pe_int (pa_cons pe_int (pa_cons pe_int (pa_cons pe_int pa_nil))))) (pv 1) (fun _ _ => rfl)) (pe_op op_add pe_int (pe_callP (ok_L_take T) (hr.mono (by decide)) (by rfl) pass0 (pa_cons (pv 0) (pa_cons pe_int pa_nil)))))))), ?_⟩
    refine ⟨_, rfl, p, _, rfl, hp, by decide, by decide, fun r H2 r0 r1 d2 => ?_⟩
    refine ⟨_, rfl, _, _, rfl, rfl, _, rfl, ifd (fun c => ?_) (fun c => ?_)⟩
    · refine ⟨(by show 4 ≤ sizeLine; decide), fun q hq => ?_⟩
      have go : ∀ v : Int, 2 ≤ v → v ≤ 256 → Q (.int v) (upd H2 q (.lst [.int 10, .int 16, .int 2, .int 256])) := fun v v0 v1 => k v _ v0 v1 (d2.new hq)
      refine ⟨_, rfl, ?_⟩
      have r4 : r = 0 ∨ r = 1 ∨ r = 2 ∨ r = 3 := by omega
      rcases r4 with rfl | rfl | rfl | rfl
      · exact ⟨_, _, _, _, rfl, rfl, SqL.of upd_same, rfl, go _ (by decide) (by decide)⟩
      · exact ⟨_, _, _, _, rfl, rfl, SqL.of upd_same, rfl, go _ (by decide) (by decide)⟩
      · exact ⟨_, _, _, _, rfl, rfl, SqL.of upd_same, rfl, go _ (by decide) (by decide)⟩
      · exact ⟨_, _, _, _, rfl, rfl, SqL.of upd_same, rfl, go _ (by decide) (by decide)⟩
    · refine ⟨_, rfl, p, _, rfl, d2.at_, by decide, by decide, fun r' H3 r0' r1' d3 => ?_⟩
      exact ⟨_, _, rfl, rfl, k _ _ (by omega) (by omega) (d2.trans d3)⟩
theorem ok_L_extra (T : Tx K mg) : Prom P w K mg base CX0 2 "_law_extra" s_L_extra ["_law_purse_here"] (spDraw 0 1000) := by
  refine Prom.of T.d_L_extra sc_L_extra (fun vs H Q E h => ?_) (fun _ _ _ _ _ _ us hl => match us, hl with | [_], _ => rfl) (fun f cdv A outer s H vs Q E hr h => ?_)
  · obtain ⟨p, rfl, _⟩ := h
    rfl
  · obtain ⟨p, rfl, hp, k⟩ := h
    refine ⟨_, (pss_cons (ps_set (i := 1) sc_L_extra.nd rfl (Or.inl rfl) (pe_callP (ok_L_take T) (hr.mono (by decide)) (by rfl) pass0 (pa_cons (pv 0) (pa_cons pe_int pa_nil))))
      (pss_cons (ps_if (pt_cmp (pc_lt (pv 1) pe_int)) (pss_one (ps_ret (pe_ix ix_list (pe_lst (pa_cons pe_int (pa_cons pe_int pa_nil))) (pv 1) (fun _ _ => rfl)))) pss_nil)
      (pss_one (ps_ret (pe_ifExp (pt_cmp (pc_eqI (pv 1) pe_int)) (pe_callP (ok_L_take T) (hr.mono (by decide)) (by rfl) pass0 (pa_cons (pv 0) (pa_cons pe_int pa_nil))) (pe_callP (ok_L_take T) (hr.mono (by decide)) (by rfl) pass0 (pa_cons (pv 0) (pa_cons pe_int pa_nil)))))))), ?_⟩
    refine ⟨_, rfl, p, _, rfl, hp, by decide, by decide, fun r H2 r0 r1 d2 => ?_⟩
    refine ⟨_, rfl, _, _, rfl, rfl, _, rfl, ifd (fun c => ?_) (fun c => ?_)⟩
    · refine ⟨(by show 2 ≤ sizeLine; decide), fun q hq => ?_⟩
      have go : ∀ v : Int, 0 ≤ v → v ≤ 1000 → Q (.int v) (upd H2 q (.lst [.int 0, .int 1000])) := fun v v0 v1 => k v _ v0 v1 (d2.new hq)
      refine ⟨_, rfl, ?_⟩
      have r4 : r = 0 ∨ r = 1 := by omega
      rcases r4 with rfl | rfl
      · exact ⟨_, _, _, _, rfl, rfl, SqL.of upd_same, rfl, go _ (by decide) (by decide)⟩
      · exact ⟨_, _, _, _, rfl, rfl, SqL.of upd_same, rfl, go _ (by decide) (by decide)⟩
    · refine ⟨_, rfl, _, _, rfl, rfl, _, rfl, ifd (fun c => ?_) (fun c => ?_)⟩
      · refine ⟨_, rfl, p, _, rfl, d2.at_, by decide, by decide, fun r' H3 r0' r1' d3 => ?_⟩
        exact k _ _ (by omega) (by omega) (d2.trans d3)
      · refine ⟨_, rfl, p, _, rfl, d2.at_, by decide, by decide, fun r' H3 r0' r1' d3 => ?_⟩
        exact k _ _ (by omega) (by omega) (d2.trans d3)
end
/-! ### a pair of texts -/
theorem dp2 {K : PySem.W.Frag} {H : Hp} {t : Addr} {w z : Str} (h : H t = some (.tup [.str w, .str z])) : Dp K H (.ref t) (.tuple [.str w, .str z]) := .tup (SqT.of h) (.cons (.str w) (.cons (.str z) .nil))
theorem eqv_str2 (w z : Str) : PyData.eqv (.tuple [.str w, .str z]) (.tuple [.str w, .str z]) = true := by
  show ((w == w) && ((z == z) && true)) = true
  simp
theorem shp_str2 {w z : Str} (o1 : PyData.strOk w = true) (o2 : PyData.strOk z = true) : SeqAt.shaped (.tuple [.str w, .str z]) = true := (shp_tuple (k := 0) fun d hd => by
  simp only [List.mem_cons, List.not_mem_nil, or_false] at hd
  rcases hd with rfl | rfl
  · exact shp_str o1
  · exact shp_str o2).shaped
/-! ### what a caught call comes to -/
def wishE (K : PySem.W.Frag) (Q : VK) : XK := fun cls d H' => PySem.W.exmAny K cls [.ref (He.ga K "Misfit"), .ref (He.ga K "Untimely"), .ref (He.ga K "Excess")] = some true ∧ ∀ a oe, Zc cls d oe → (∃ vs, oe.data = .fields vs) → H' a = none → spErrP K (a, oe) [.ref a] H' Q E0
def contE (Q : VK) : VK := fun v H' => ∀ t, H' t = none → Q (.ref t) (upd H' t (.tup [.str "told", v]))
section
variable {K : PySem.W.Frag} {mg : Str → Option Value}
theorem caught_fails {H : Hp} {Q : VK} {i : Nat} {v : V} {z C f : Str} (ET : ErrTab K) (hi : i < 19) (hb : eb i ≠ 1) (hC : ew i = C) (hf : ef i = f) (sh : Shw K H v z) (k : ∀ t H', Same H H' → H' t = some (.tup [.str C, .str z]) → Q (.ref t) H') : Fails K H (wishE K Q) C f v := by
  subst hC hf
  exact fun d hd => ⟨ET.any i hi, fun a oe hz hv na => ⟨i, z, hi, rfl, hz.1, hv, .inr ⟨hb, d, v, hz.2, upd_same, sh.same (up hd)⟩, fun t H' s h => k t H' (fun _ _ e => s _ _ (up hd _ _ e)) h⟩⟩
end
/-! ### how far doubled goes -/
theorem pow_base2 {b : Int} (hb : 2 ≤ b) : ∀ m : Nat, (2 : Int) ^ m ≤ b ^ m
  | 0 => by rw [Int.pow_zero, Int.pow_zero]; exact Int.le_refl _
  | m + 1 => by
    rw [Int.pow_succ, Int.pow_succ]
    exact Int.mul_le_mul (pow_base2 hb m) hb (by decide) (Int.le_of_lt (Int.lt_of_lt_of_le (by decide) (pow_pos (by omega) m)))
theorem dlen_far {b c : Int} {m : Nat} (b0 : 2 ≤ b) (c1 : c ≤ 1000) (hm : 202 ≤ m) : 10 ^ 60 ≤ dlen b c m := by
  refine Int.le_trans ?_ (dlen_mono b0 (i := 202) (by decide) hm)
  have h1 : (2 : Int) ^ 202 ≤ b ^ 202 := pow_base2 b0 202
  have h2 : (10 : Int) ^ 60 + 2000 ≤ 2 ^ 202 := by decide
  unfold dlen
  omega
theorem dlen_near {b c : Int} {j i : Nat} (b0 : 2 ≤ b) (b1 : b ≤ 256) (c0 : 0 ≤ c) (c1 : c ≤ 1000) (h : IsJ b c j) (hi : i ≤ 2) : dlen b c (j + i) < 10 ^ 60 := by
  have hj := h.pos
  have j11 : j ≤ 11 := by
    refine Nat.le_of_not_lt fun z => ?_
    have h1 := h.first 11 (by decide) z
    have h2 : (2 : Int) ^ 11 ≤ b ^ 11 := pow_base2 b0 11
    unfold dlen at h1
    have h3 : (2 : Int) ^ 11 = 2048 := by decide
    omega
  have p0 : b ^ (j - 1) ≤ 1011 := by
    by_cases z : j = 1
    · subst z
      show b ^ 0 ≤ 1011
      rw [Int.pow_zero]
      decide
    · have h1 := h.first (j - 1) (by omega) (by omega)
      unfold dlen at h1
      omega
  have p1 : b ^ (j + i) ≤ b ^ (j - 1 + 3) := pow_mono (by omega) (by omega)
  have p2 : b ^ (j - 1 + 3) = b ^ (j - 1) * (b * b * b) := by
    rw [Int.pow_succ, Int.pow_succ, Int.pow_succ, Int.mul_assoc, Int.mul_assoc, ← Int.mul_assoc b b b]
  have p3 : b * b ≤ 256 * 256 := Int.mul_le_mul b1 b1 (by omega) (by decide)
  have p4 : b * b * b ≤ 256 * 256 * 256 := Int.mul_le_mul p3 b1 (by omega) (by decide)
  have q0 : 0 ≤ b * b * b := Int.mul_nonneg (Int.mul_nonneg (by omega) (by omega)) (by omega)
  have p5 : b ^ (j - 1) * (b * b * b) ≤ 1011 * (256 * 256 * 256) := Int.mul_le_mul p0 p4 q0 (by decide)
  unfold dlen
  have big : (1011 : Int) * (256 * 256 * 256) < 10 ^ 60 := by decide
  omega
/-! ### all lengths with two totals -/
theorem two_iff {b c n s : Int} (b0 : 2 ≤ b) (n0 : 0 ≤ n) (c0 : 0 ≤ c) (hs : IsTot b (n + c) s) : Tot b (n + c) (s + 1) ↔ ∃ m : Nat, 1 ≤ m ∧ n = dlen b c m := by
  constructor
  · intro h
    obtain ⟨j, e1, h1, h2⟩ := hs.tot
    obtain ⟨i, e2, h3, h4⟩ := h
    have ei : i = j + 1 := by omega
    subst ei
    have h5 : b ^ (j + 1) ≤ s + 1 := h4.resolve_left (by omega)
    exact ⟨j + 1, by omega, by unfold dlen; omega⟩
  · rintro ⟨m, m1, e⟩
    obtain ⟨k, rfl⟩ : ∃ k, m = k + 1 := ⟨m - 1, by omega⟩
    unfold dlen at e
    have p1 := pow_lt b0 k
    have p2 := pow_lt b0 (k + 1)
    have t1 : Tot b (n + c) (b ^ (k + 1) - 1) := ⟨k, by omega, by omega, .inr (by omega)⟩
    have t2 : Tot b (n + c) (b ^ (k + 1)) := ⟨k + 1, by omega, p2, .inr (by omega)⟩
    have h1 := hs.least _ t1
    have h2 := tot_near b0 (show 0 ≤ n + c by omega) hs.tot t2 (by omega)
    have e3 : s + 1 = b ^ (k + 1) := by omega
    rw [e3]
    exact t2
theorem two_at {b c s : Int} {m : Nat} (b0 : 2 ≤ b) (c0 : 0 ≤ c) (m1 : 1 ≤ m) (h0 : 0 ≤ dlen b c m) (hs : IsTot b (dlen b c m + c) s) : s = b ^ m - 1 := by
  obtain ⟨k, rfl⟩ : ∃ k, m = k + 1 := ⟨m - 1, by omega⟩
  have p1 := pow_lt b0 k
  have p2 := pow_lt b0 (k + 1)
  have e : dlen b c (k + 1) = b ^ (k + 1) - 1 - ((k + 1 : Nat) : Int) - c := rfl
  have t1 : Tot b (dlen b c (k + 1) + c) (b ^ (k + 1) - 1) := ⟨k, by omega, by omega, .inr (by omega)⟩
  have t2 : Tot b (dlen b c (k + 1) + c) (b ^ (k + 1)) := ⟨k + 1, by omega, p2, .inr (by omega)⟩
  have h1 := hs.least _ t1
  have h2 := tot_near b0 (show 0 ≤ dlen b c (k + 1) + c by omega) hs.tot t2 (by omega)
  omega
def spAll : Sp := fun vs H Q _ => ∃ (b c : Int) (j : Nat), vs = [.int b, .int c] ∧ 2 ≤ b ∧ b ≤ 256 ∧ 0 ≤ c ∧ c ≤ 1000 ∧ IsJ b c j ∧
  ∀ (q : Addr) H' (ts : List Addr), H q = none → Same H H' → 0 < ts.length → ts.length ≤ 202 → (∀ i : Nat, i < ts.length → dlen b c (j + i) < 10 ^ 60) → 10 ^ 60 ≤ dlen b c (j + ts.length) → H' q = some (.lst (ts.map V.ref)) →
    (∀ (i : Nat) t, ts[i]? = some t → H' t = some (.tup [.int (dlen b c (j + i)), .int (b ^ (j + i))])) → Q (.ref q) H'
section
variable {P : Program} {w : World} {K : PySem.W.Frag} {mg : Str → Option Value} {base : Heap}
theorem ok_L_all (T : Tx K mg) : Prom P w K mg base CX0 1 "_law_all" s_L_all ["_law_radix_here", "_law_extra_here"] spAll := by
  refine Prom.of T.d_L_all sc_L_all (fun vs H Q E h => ?_) (fun _ _ _ _ _ _ us hl => match us, hl with | [_, _], _ => rfl) (fun f cdv A outer s H vs Q E hr h => ?_)
  · obtain ⟨b, c, j, rfl, _⟩ := h
    rfl
  · obtain ⟨b, c, j, rfl, b0, b1, c0, c1, hj, k⟩ := h
    refine ⟨_, (pss_cons (ps_par3 (i := 2) (j := 3) (l := 4) (by rfl) sc_L_all.nd rfl rfl rfl (by decide) (by decide) (by decide) rfl rfl rfl (pa_cons (pe_lst pa_nil) (pa_cons (pv 0) (pa_cons pe_int pa_nil))) (by rfl))
      (pss_cons (ps_while PassesOwn.never (pt_cmp (pc_lt (pe_op op_sub (pe_op op_sub (pe_op op_sub (pv 3) pe_int) (pv 4)) (pv 1)) (pe_op op_pow pe_int pe_int))) (pss_cons (ps_if (pt_cmp (pc_ge (pe_op op_sub (pe_op op_sub (pe_op op_sub (pv 3) pe_int) (pv 4)) (pv 1)) pe_int)) (pss_one (ps_expr (pe_bm PySem.F.plainAttrs_list PySem.F.slot_list_append PySem.F.type_list_append mt_append (pv 2) (pa_cons (pe_tup (pa_cons (pe_op op_sub (pe_op op_sub (pe_op op_sub (pv 3) pe_int) (pv 4)) (pv 1)) (pa_cons (pv 3) pa_nil))) pa_nil)))) pss_nil)
      (pss_one (ps_par (i := 3) (j := 4) (by rfl) sc_L_all.nd rfl rfl (by decide) rfl rfl (pa_cons (pe_op op_mul (pv 3) (pv 0)) (pa_cons (pe_op op_add (pv 4) pe_int) pa_nil)) (by rfl)))))
      (pss_one (ps_ret (pv 2))))), ?_⟩
    refine ⟨Nat.zero_le _, fun q hq => ⟨_, rfl, _, _, _, rfl, ?_⟩⟩
    have jp := hj.pos
    refine ⟨fun n σ H1 => Kp q H H1 ∧ ∃ (m : Nat) (ts : List Addr), 1 ≤ m ∧ m ≤ 202 ∧ (m ≤ j ∨ dlen b c (m - 1) < 10 ^ 60) ∧ n = 203 - m ∧ σ = [some (.int b), some (.int c), some (.ref q), some (.int (b ^ m)), some (.int (m : Int))] ∧ ts.length = m - j ∧ H1 q = some (.lst (ts.map V.ref)) ∧
      (∀ (i : Nat) t, ts[i]? = some t → t ≠ q ∧ H1 t = some (.tup [.int (dlen b c (j + i)), .int (b ^ (j + i))])),
      ⟨_, (Kp.refl q H).set, 1, [], Nat.le_refl 1, by decide, .inl jp, rfl, ?_, by rw [List.length_nil]; omega, upd_same, fun i t e => by simp at e⟩, ?_⟩
    · have e2 : b ^ 1 = b := pow_one b
      rw [e2]
      rfl
    rintro n σ H1 ⟨kp, m, ts, m0, m1, mj, hn, rfl, tl, hl, ht⟩
    have e60 : (10 : Int) ^ (60 : Int).toNat = 10 ^ 60 := by decide
    have hi := isJ_iff b0 hj m0
    have ed : b ^ m - 1 - (m : Int) - c = dlen b c m := rfl
    refine ⟨_, rfl, _, _, rfl, rfl, _, rfl, _, _, rfl, rfl, _, rfl, _, _, rfl, rfl, _, _, rfl, rfl, ⟨by decide, by decide, by decide⟩, _, _, rfl, rfl, _, rfl, ?_⟩
    rw [ed, e60]
    refine ifd (fun c2 => ?_) (fun c2 => ?_)
    · have m2 : m < 202 := by
        by_cases z : m < 202
        · exact z
        · have := dlen_far (c := c) (m := m) b0 c1 (by omega)
          omega
      have next : ∀ (H2 : Hp) (ts' : List Addr), Kp q H H2 → ts'.length = m + 1 - j → H2 q = some (.lst (ts'.map V.ref)) → (∀ (i : Nat) t, ts'[i]? = some t → t ≠ q ∧ H2 t = some (.tup [.int (dlen b c (j + i)), .int (b ^ (j + i))])) →
          ∃ m', m' < n ∧ Kp q H H2 ∧ ∃ (m'' : Nat) (ts : List Addr), 1 ≤ m'' ∧ m'' ≤ 202 ∧ (m'' ≤ j ∨ dlen b c (m'' - 1) < 10 ^ 60) ∧ m' = 203 - m'' ∧ [some (V.int b), some (V.int c), some (V.ref q), some (V.int (b ^ m * b)), some (V.int ((m : Int) + 1))] = [some (.int b), some (.int c), some (.ref q), some (.int (b ^ m'')), some (.int (m'' : Int))] ∧ ts.length = m'' - j ∧ H2 q = some (.lst (ts.map V.ref)) ∧
            (∀ (i : Nat) t, ts[i]? = some t → t ≠ q ∧ H2 t = some (.tup [.int (dlen b c (j + i)), .int (b ^ (j + i))])) := fun H2 ts' h1 h2 h3 h4 =>
        ⟨203 - (m + 1), by omega, h1, m + 1, ts', by omega, by omega, .inr (by simpa using c2), rfl, by rw [Int.pow_succ]; rfl, h2, h3, h4⟩
      refine ⟨_, fun _ _ h => h, ?_⟩
      refine ⟨_, rfl, _, _, rfl, rfl, _, rfl, _, _, rfl, rfl, _, rfl, _, _, rfl, rfl, _, _, rfl, rfl, _, rfl, ?_⟩
      rw [ed]
      refine ifd (fun c3 => ?_) (fun c3 => ?_)
      · have jm := hi.mp c3
        refine ⟨_, rfl, .inl ⟨rfl, _, SqL.of hl⟩, _, rfl, _, _, rfl, rfl, _, rfl, _, _, rfl, rfl, _, rfl, _, _, rfl, rfl, _, rfl, (by show 2 ≤ sizeLine; decide), fun t hq2 => ?_⟩
        refine ⟨q, _, _, rfl, rfl, up hq2 _ _ hl, ?_, ?_⟩
        · rw [List.length_map, sizeLine_eq]
          omega
        refine ⟨_, rfl, _, rfl, _, _, rfl, rfl, .inr ⟨by omega, by omega⟩, _, rfl, _, _, rfl, rfl, _, _, rfl, ?_⟩
        have tq : t ≠ q := fun z => by rw [z, hl] at hq2; cases hq2
        refine next _ (ts ++ [t]) ((kp.new hq2).set) (by rw [List.length_append]; show ts.length + 1 = _; omega) (by rw [upd_same, List.map_append]; rfl) (fun i t' e => ?_)
        by_cases il : i < ts.length
        · rw [List.getElem?_append_left il] at e
          obtain ⟨z1, z2⟩ := ht i t' e
          exact ⟨z1, by rw [upd_ne z1]; exact up hq2 _ _ z2⟩
        · have il2 : i = ts.length := by
            have := (List.getElem?_eq_some_iff.mp e).1
            rw [List.length_append] at this
            have : i < ts.length + 1 := this
            omega
          subst il2
          rw [List.getElem?_append_right (Nat.le_refl _), Nat.sub_self] at e
          have e : t = t' := Option.some.inj e
          subst e
          refine ⟨tq, ?_⟩
          rw [upd_ne tq, upd_same]
          have e5 : j + ts.length = m := by omega
          rw [e5, ← ed]
      · have jm : ¬ j ≤ m := fun z => c3 (hi.mpr z)
        refine ⟨_, rfl, _, rfl, _, _, rfl, rfl, .inr ⟨by omega, by omega⟩, _, rfl, _, _, rfl, rfl, _, _, rfl, ?_⟩
        exact next _ ts kp (by omega) hl ht
    · have mj2 : j < m := by
        by_cases z : j < m
        · exact z
        · have := dlen_near (i := 0) b0 b1 c0 c1 hj (by decide)
          have := dlen_mono (c := c) b0 m0 (show m ≤ j + 0 by omega)
          omega
      refine ⟨_, rfl, k q H1 ts hq (fun x o e => kp x o (ne_of_none e hq) e) (by omega) (by omega) (fun i hi => ?_) ?_ hl (fun i t e => (ht i t e).2)⟩
      · have h1 := mj.resolve_left (by omega)
        exact Int.lt_of_le_of_lt (dlen_mono b0 (by omega) (by omega)) h1
      · have e5 : j + ts.length = m := by omega
        rw [e5]
        omega
end
/-! ### the lengths beside, and the law's turn -/
theorem inV_ints {a : Int} : ∀ ds : List Int, inV (.int a) (ds.map V.int) = decide (a ∈ ds)
  | [] => rfl
  | d :: ds => by
    have ih := inV_ints (a := a) ds
    unfold inV at ih ⊢
    rw [List.map_cons, List.any_cons, ih]
    have e : eqV (.int d) (.int a) = decide (a = d) := by
      show (d == a) = _
      by_cases z : a = d
      · rw [z]; simp
      · rw [decide_eq_false z]; exact beq_false_of_ne (Ne.symm z)
    rw [e, decide_eq_decide.mpr (List.mem_cons (a := a) (b := d) (l := ds)), Bool.decide_or]
theorem flat_ints : ∀ ds : List Int, (ds.map V.int).all flatV = true
  | [] => rfl
  | d :: ds => by rw [List.map_cons, List.all_cons, flat_ints ds]; rfl
theorem iteE {b : Bool} {A B : Prop} (h : b = true) (a : A) : if b = true then A else B := by rw [if_pos h]; exact a
theorem iteD {b : Bool} {A B : Prop} (h : b = false) (a : B) : if b = true then A else B := by rw [h, if_neg Bool.false_ne_true]; exact a
def spBeside (K : PySem.W.Frag) : Sp := fun vs H Q _ => ∃ (b c a : Int) (u : Addr) (ds : List Int), vs = [.int b, .int c, .int a, .ref u] ∧ 2 ≤ b ∧ b ≤ 256 ∧ 0 ≤ c ∧ c ≤ 1000 ∧ H u = some (.lst (ds.map V.int)) ∧ (0 ≤ a → a < 10 ^ 60 → (a ∈ ds ↔ ∃ m : Nat, 1 ≤ m ∧ a = dlen b c m)) ∧ ∀ H', Same H H' → Q (.bl true) H'
section
variable {P : Program} {w : World} {K : PySem.W.Frag} {mg : Str → Option Value} {base : Heap}
theorem ok_L_beside (T : Tx K mg) : Prom P w K mg base CX0 5 "_law_beside" s_L_beside ["_law_radix_here", "_law_extra_here", "_law_amount", "_law_due"] (spBeside K) := by
  refine Prom.of T.d_L_beside sc_L_beside (fun vs H Q E h => ?_) (fun _ _ _ _ _ _ us hl => match us, hl with | [_, _, _, _], _ => rfl) (fun f cdv A outer s H vs Q E hr h => ?_)
  · obtain ⟨b, c, a, u, ds, rfl, _⟩ := h
    rfl
  · obtain ⟨b, c, a, u, ds, rfl, b0, b1, c0, c1, hu, hd, k⟩ := h
    refine ⟨_, (pss_cons (ps_if (pt_not (pt_chain op_le op_lt pe_int (pv 2) (pe_op op_pow pe_int pe_int))) (pss_one (ps_ret pe_bl)) pss_nil)
      (pss_cons (ps_set (i := 4) sc_L_beside.nd rfl (Or.inl rfl) (pe_callP (ok_totals T) (hr.mono (by decide)) (by rfl) pass0 (pa_cons (pv 0) (pa_cons (pv 1) (pa_cons (pv 2) pa_nil)))))
      (pss_one (ps_ret (pe_and (pe_callB call_isi (by rfl) T.b_isinstance (by decide +kernel) (pa_cons (pv 4) (pa_cons (pe_bltn (v := .ty "tuple") (by rfl) T.b_tuple (by decide +kernel) rfl) pa_nil))) (pe_one (pe_cmp (pc_eqI (pe_callB call_len_seq (by rfl) T.b_len (by decide +kernel) (pa_cons (pv 4) pa_nil)) (pe_ifExp (pt_cmpR op_in_seq (pv 2) (pv 3) (by rfl)) pe_int pe_int))))))))), ?_⟩
    have e60 : (10 : Int) ^ (60 : Int).toNat = 10 ^ 60 := by decide
    refine ⟨_, rfl, _, _, rfl, rfl, _, rfl, ?_⟩
    by_cases a0 : 0 ≤ a
    rotate_left
    · exact ifd_neg a0 ⟨_, rfl, iteT (k _ (Same.refl H))⟩
    refine ifd_pos a0 ⟨_, _, rfl, rfl, ⟨by decide, by decide, by decide⟩, _, _, rfl, rfl, _, rfl, ?_⟩
    rw [e60]
    by_cases a1 : a < 10 ^ 60
    rotate_left
    · rw [decide_eq_false a1]
      exact iteT (k _ (Same.refl H))
    rw [decide_eq_true a1]
    refine iteF ?_
    have hd := hd a0 a1
    refine ⟨_, rfl, _, rfl, _, rfl, b, c, a, rfl, b0, b1, c0, c1, a0, by omega, fun s two t H5 hs s1 h2 nt s5 ht => ?_⟩
    have hu5 := s5 _ _ hu
    have h3 := h2.trans (two_iff b0 a0 c0 hs)
    refine ⟨_, rfl, _, _, _, _, true, rfl, .ty _, .base (.tup ht), kit_ty (by decide +kernel), true, rfl, iteT ?_⟩
    refine ⟨_, rfl, t, _, rfl, .inr (SqT.of ht), _, rfl, _, rfl, u, _, rfl, .inl (SqL.of hu5), rfl, flat_ints ds, _, rfl, ?_⟩
    have hin := inV_ints (a := a) ds
    cases two with
    | true =>
      have z : a ∈ ds := hd.mpr (h3.mp rfl)
      refine iteE (by rw [show (if false = true then !inV (V.int a) (ds.map V.int) else inV (V.int a) (ds.map V.int)) = inV (V.int a) (ds.map V.int) from rfl, hin, decide_eq_true z]) ?_
      exact ⟨_, _, rfl, rfl, k _ s5⟩
    | false =>
      have z : ¬ a ∈ ds := fun z => Bool.noConfusion (h3.mpr (hd.mp z))
      refine iteD (by rw [show (if false = true then !inV (V.int a) (ds.map V.int) else inV (V.int a) (ds.map V.int)) = inV (V.int a) (ds.map V.int) from rfl, hin, decide_eq_false z]) ?_
      exact ⟨_, _, rfl, rfl, k _ s5⟩
end
section
variable {P : Program} {w : World} {K : PySem.W.Frag} {mg : Str → Option Value} {base : Heap}
def spRightT (K : PySem.W.Frag) : Sp := fun vs H Q _ => ∃ (p : Addr), vs = [.ref p] ∧ PurseAt H p ∧ LamX.Tabs (tabsOf K) H ∧ ∀ H', DrewT p H H' → LamX.Tabs (tabsOf K) H' → Q (.bl true) H'
theorem shown60 : flatShown (.int (10 ^ 60)) = some ((toString ((10 : Int) ^ 60) : String) : Str) := by
  have h : ((10 : Int) ^ 60).natAbs.log2 < 1920 := by decide +kernel
  show (if ((10 : Int) ^ 60).natAbs.log2 < 1920 then some ((toString ((10 : Int) ^ 60) : String) : Str) else none) = _
  rw [if_pos h]
theorem gv_L_caught {X : Cx} (T : Tx X.K X.mg) (gd : X.A.guards = some []) (hr : Room 2 X.A) : Gives X ["_law_deed", "_law_told", "_law_e"] "_law_caught" s_L_caught "_law_deed" (TCaught X.K [.ref (He.ga X.K "Misfit"), .ref (He.ga X.K "Untimely"), .ref (He.ga X.K "Excess")] (spErrP X.K)) :=
  caught_gives (by decide) rfl rfl rfl rfl rfl rfl rfl rfl T.k_Misfit T.k_Untimely T.k_Excess (ok_L_error T) gd hr
theorem ok_L_right (T : Tx K mg) (U : UT K mg base) : PromG P w K mg base 8 "_law_right" s_L_right ["_law_purse_here"] (spRightT K) := by
  refine PromG.ofT T.dt_L_right sc_L_right (fun vs H Q E h => ?_) (fun _ _ _ _ _ _ us hl => match us, hl with | [_], _ => rfl) (fun f A outer s H vs Q E hr hgd h => ?_)
  · obtain ⟨p, rfl, _⟩ := h
    rfl
  · obtain ⟨p, rfl, hp, hT, k⟩ := h
    refine ⟨_, (pss_cons (ps_asg (pe_tup (pa_cons (pe_callP (ok_L_radix T) (hr.mono (by decide)) (by rfl) pass0 (pa_cons (pv 0) pa_nil)) (pa_cons (pe_callP (ok_L_extra T) (hr.mono (by decide)) (by rfl) pass0 (pa_cons (pv 0) pa_nil)) pa_nil))) (pg_tup rfl (pgs_cons (pg_name (i := 8) sc_L_right.nd rfl (Or.inr rfl)) (pgs_cons (pg_name (i := 6) sc_L_right.nd rfl (Or.inr rfl)) pgs_nil))))
      (pss_cons (ps_set (i := 1) sc_L_right.nd rfl (Or.inl rfl) (pe_callP (ok_L_all T) (hr.mono (by decide)) (by rfl) pass0 (pa_cons (pv 8) (pa_cons (pv 6) pa_nil))))
      (pss_cons (ps_set (i := 5) sc_L_right.nd rfl (Or.inr rfl) (pe_lc (own := [("_law_amount", 2), ("_law_power", 3)]) (g := (gTup K 2 (gCons (gName 2) (gCons (gName 3) gNil)))) (tt := tYes) (by rfl) sc_L_right.nd (pi_list (pv 1)) (blkOk_by (own := [("_law_amount", 2), ("_law_power", 3)]) (N := ["_law_purse_here", "_law_pairs", "_law_amount", "_law_power", "_law_turn", "_law_due", "_law_extra_here", "_law_more", "_law_radix_here", "_law_k", "_law_near"]) (sc := defScope s_L_right) (by decide +kernel)) (fun _ _ _ _ _ => (pg_tup rfl (pgs_cons (pg_name (i := 2) sc_L_right.nd rfl (Or.inl rfl)) (pgs_cons (pg_name (i := 3) sc_L_right.nd rfl (Or.inl rfl)) pgs_nil)))) (fun _ _ _ _ _ => pts_nil) (fun _ _ _ _ _ => (pv 2))))
      (pss_cons (ps_if (pt_cmpR (op_neD hr.units) (pe_lc (own := [("_law_k", 9)]) (g := (gName 9)) (by rfl) sc_L_right.nd (pi_range1 (by rfl) T.b_range (pa_cons (pe_callB call_len_seq (by rfl) T.b_len (by decide +kernel) (pa_cons (pv 5) pa_nil)) pa_nil)) (blkOk_by (own := [("_law_k", 9)]) (N := ["_law_purse_here", "_law_pairs", "_law_amount", "_law_power", "_law_turn", "_law_due", "_law_extra_here", "_law_more", "_law_radix_here", "_law_k", "_law_near"]) (sc := defScope s_L_right) (by decide +kernel)) (fun _ _ _ _ _ => (pg_name (i := 9) sc_L_right.nd rfl (Or.inl rfl))) (fun _ _ _ _ _ => pts_one (pt_cmpR op_ne (pe_callB cr_repr (by rfl) T.b_repr (by decide +kernel) (pa_cons (pe_callP (ok_doubled T) (hr.mono (by decide)) (by rfl) passL (pa_cons (pv 8) (pa_cons (pv 6) (pa_cons (pv 9) pa_nil)))) pa_nil)) (pe_callB cr_repr (by rfl) T.b_repr (by decide +kernel) (pa_cons (pe_ix (show IxR _ (rIxL K) from ix_list) (pv 5) (pv 9) (fun _ _ => rfl)) pa_nil)) (nomark _))) (fun _ _ _ _ _ => (pv 9))) (pe_lst pa_nil) (nomark _)) (pss_one (ps_ret pe_bl)) pss_nil)
      (pss_cons (ps_for PassesOwn.never (by rfl) (pi_list (pe_lst (pa_cons pe_int (pa_cons pe_int (pa_cons (pe_callP (ok_L_take T) (hr.mono (by decide)) (by rfl) pass0 (pa_cons (pv 0) (pa_cons pe_int pa_nil))) (pa_cons (pe_op op_powW (pe_op op_powW pe_int pe_int) pe_int) pa_nil)))))) (pg_name (i := 7) sc_L_right.nd rfl (Or.inr rfl)) (pss_one (ps_if (pt_cmpR (op_neD hr.units) (pe_lamP (T := tabsOf K) (k := 4) T.d_L_caught (by rfl) sc_L_caught (fun _ _ _ _ _ _ us hl => match us, hl with | [_], _ => rfl) rfl (.inl rfl) (gv_L_caught T hgd (hr.mono (by decide))) (U _ (List.mem_cons_self ..)) rfl (List.mem_cons_self ..) tabs_u (hr.mono (by decide)) (LamX.lamS_by (sc := defScope s_L_right) (by decide +kernel)) (fun _ _ _ _ _ _ _ hr => (pe_callP (ok_doubled T) (hr.mono (by decide)) (gl_lam (by decide +kernel)) LamX_pass (pa_cons (pv 8) (pa_cons (pv 6) (pa_cons (pe_op op_add (pe_callB (show CallR _ (.builtin "len") (rLenS K) from call_len_seq) (gl_lam (by decide +kernel)) T.b_len (by decide +kernel) (pa_cons (pv 5) pa_nil)) (pv 7)) pa_nil)))))) (pe_tup (pa_cons pe_str (pa_cons (pe_callB cr_repr (by rfl) T.b_repr (by decide +kernel) (pa_cons (pe_op op_powW pe_int pe_int) pa_nil)) pa_nil))) (nomark _)) (pss_one (ps_ret pe_bl)) pss_nil)))
      (pss_cons (ps_for PassesOwn.never (by rfl) (pi_range1 (by rfl) T.b_range (pa_cons pe_int pa_nil)) (pg_name (i := 4) sc_L_right.nd rfl (Or.inl rfl)) (pss_cons (ps_asg (pe_ix ix_list (pv 1) (pe_callP (ok_L_take T) (hr.mono (by decide)) (by rfl) pass0 (pa_cons (pv 0) (pa_cons (pe_callB call_len_seq (by rfl) T.b_len (by decide +kernel) (pa_cons (pv 1) pa_nil)) pa_nil))) (fun _ _ => rfl)) (pg_tup rfl (pgs_cons (pg_name (i := 2) sc_L_right.nd rfl (Or.inl rfl)) (pgs_cons (pg_name (i := 3) sc_L_right.nd rfl (Or.inl rfl)) pgs_nil))))
      (pss_cons (ps_if (pt_cmpR op_ne (pe_callB (cr_reprD hgd hr.units) (by rfl) T.b_repr (by decide +kernel) (pa_cons (pe_callP (ok_totals T) (hr.mono (by decide)) (by rfl) pass0 (pa_cons (pv 8) (pa_cons (pv 6) (pa_cons (pv 2) pa_nil)))) pa_nil)) (pe_callB (cr_reprD hgd hr.units) (by rfl) T.b_repr (by decide +kernel) (pa_cons (pe_tup (pa_cons (pe_op op_sub (pv 3) pe_int) (pa_cons (pv 3) pa_nil))) pa_nil)) (nomark _)) (pss_one (ps_ret pe_bl)) pss_nil)
      (pss_one (ps_if (pt_cmpR (op_neD hr.units) (pe_lc (own := [("_law_near", 10)]) (g := (gName 10)) (by rfl) sc_L_right.nd (pi_list (pe_lst (pa_cons (pe_op op_sub (pv 2) pe_int) (pa_cons (pe_op op_add (pv 2) pe_int) pa_nil)))) (blkOk_by (own := [("_law_near", 10)]) (N := ["_law_purse_here", "_law_pairs", "_law_amount", "_law_power", "_law_turn", "_law_due", "_law_extra_here", "_law_more", "_law_radix_here", "_law_k", "_law_near"]) (sc := defScope s_L_right) (by decide +kernel)) (fun _ _ _ _ _ => (pg_name (i := 10) sc_L_right.nd rfl (Or.inl rfl))) (fun _ _ _ _ _ => pts_one (pt_not (pt_val (pe_callP (ok_L_beside T) (hr.mono (by decide)) (by rfl) pass0 (pa_cons (pv 8) (pa_cons (pv 6) (pa_cons (pv 10) (pa_cons (pv 5) pa_nil)))))))) (fun _ _ _ _ _ => (pv 10))) (pe_lst pa_nil) (nomark _)) (pss_one (ps_ret pe_bl)) pss_nil)))))
      (pss_one (ps_ret pe_bl)))))))), ?_⟩
    refine ⟨_, rfl, p, rfl, hp, fun b H1 b0 b1 d1 => ?_⟩
    refine ⟨_, rfl, p, rfl, d1.at_, fun c H2 c0 c1 d2 => ?_⟩
    have d2 := d1.trans d2
    refine ⟨(by show 2 ≤ sizeLine; decide), fun tq htq => ⟨tq, _, rfl, SqT.of upd_same, rfl, _, _, rfl, _, _, rfl, rfl, ?_⟩⟩
    obtain ⟨j, hj⟩ := isJ_ex (b := b) (c := c) b0 c0
    refine ⟨_, rfl, _, rfl, b, c, j, rfl, b0, b1, c0, c1, hj, fun q H3 ts nq s3 l0 l1 sm far hq ht => gn ?_⟩
    refine st_eq [some (.ref p), some (.ref q), none, none, none, none, some (.int c), none, some (.int b), none, none] rfl ?_
    have nqp : q ≠ p := (d2.new (o := .tup [.int b, .int c]) htq).at_.ne nq
    have d3 := (d2.new (o := .tup [.int b, .int c]) htq).same s3
    refine ⟨_, rfl, q, rfl, ⟨_, SqL.of hq⟩, fun D hD => ?_⟩
    refine lc_list (K := K) (a := q) (xs := ts.map V.ref) (Pv := fun i H' => Same H3 H' ∧ H' D = some (.lst (((List.range i).map fun n => dlen b c (j + n)).map V.int))) ⟨up hD, upd_same⟩ (fun i H' _ h => SqL.of (h.1 _ _ hq)) ?_ ?_
    · rintro i x H' hi ⟨hs, hd⟩
      rw [List.getElem?_map] at hi
      obtain ⟨t, hti, rfl⟩ := Option.map_eq_some_iff.mp hi
      have htt := ht i t hti
      have il := (List.getElem?_eq_some_iff.mp hti).1
      refine ⟨t, _, rfl, SqT.of (hs _ _ htt), rfl, _, _, rfl, _, _, rfl, rfl, rfl, _, rfl, _, hd, ?_, fun y o e => ?_, ?_⟩
      · rw [List.length_map, List.length_map, List.length_range, sizeLine_eq]
        omega
      · rw [upd_ne (ne_of_none e hD)]
        exact hs _ _ e
      · rw [upd_same, List.range_succ, List.map_append, List.map_append]
        rfl
    rintro H4 ⟨s4, hu⟩
    rw [List.length_map] at hu
    refine gn ?_
    refine st_eq [some (.ref p), some (.ref q), none, none, none, some (.ref D), some (.int c), none, some (.int b), none, none] rfl ?_
    obtain ⟨ds, hds⟩ : ∃ ds, ds = (List.range ts.length).map fun n => dlen b c (j + n) := ⟨_, rfl⟩
    rw [← hds] at hu
    have dl : ds.length = ts.length := by rw [hds, List.length_map, List.length_range]
    have dat : ∀ i : Nat, i < ts.length → ds[i]? = some (dlen b c (j + i)) := fun i hi => by rw [hds, List.getElem?_map, List.getElem?_range hi]; rfl
    have mem : ∀ a : Int, 0 ≤ a → a < 10 ^ 60 → (a ∈ ds ↔ ∃ m : Nat, 1 ≤ m ∧ a = dlen b c m) := fun a a0 a1 => by
      have jp := hj.pos
      constructor
      · intro h
        rw [hds] at h
        obtain ⟨i, hi, rfl⟩ := List.mem_map.mp h
        exact ⟨j + i, by omega, rfl⟩
      · rintro ⟨m, m1, rfl⟩
        have jm := (isJ_iff b0 hj m1).mp a0
        have ml : m < j + ts.length := by
          by_cases z : m < j + ts.length
          · exact z
          · have := dlen_mono (c := c) b0 (show 1 ≤ j + ts.length by omega) (show j + ts.length ≤ m by omega)
            omega
        refine List.mem_of_getElem? (i := m - j) ?_
        rw [dat _ (by omega), show j + (m - j) = m by omega]
    have nDp : D ≠ p := d3.at_.ne hD
    have d4 : Drew p H H4 := d3.same s4
    have tb4 : ∀ (i : Nat) (t : Addr), ts[i]? = some t → H4 t = some (HO.tup [V.int (dlen b c (j + i)), V.int (b ^ (j + i))]) := fun i t e => s4 _ _ (ht i t e)
    have hq4 := s4 _ _ hq
    have hT4 := tabs_drewT (K := K) hp d4 hT
    have pos : ∀ i : Nat, 0 ≤ dlen b c (j + i) := fun i => (isJ_iff b0 hj (by have := hj.pos; omega)).mpr (by omega)
    clear hds hD s4 s3 nq htq d1 d2 ht hq hT d3
    -- the lengths that doubled tells
    refine ⟨_, rfl, D, _, rfl, .inl (SqL.of hu), _, rfl, ?_, ?_, fun D1 hD1 => ?_⟩
    · rw [List.length_map]; omega
    · rw [List.length_map]; omega
    refine lc_range (lo := 0) (Pv := fun i H' => Same H4 H' ∧ H' D1 = some (.lst [])) ⟨up hD1, upd_same⟩ ?_ ?_
    · rintro i H' hi ⟨hs, hd⟩
      rw [List.length_map] at hi
      have ei : (0 : Int) + (i : Int) = (i : Int) := by omega
      rw [ei]
      have hil : i < ts.length := by omega
      have hat : (ds.map V.int)[i]? = some (V.int (dlen b c (j + i))) := by rw [List.getElem?_map, dat i hil]; rfl
      have sh : flatShown (.int (dlen b c (j + i))) = some ((toString (dlen b c (j + i)) : String) : Str) := if_pos (log2_small (pos i) (Int.lt_trans (sm i hil) (by decide)))
      refine ⟨rfl, _, rfl, _, rfl, _, rfl, b, c, i, j, rfl, b0, b1, c0, c1, hj, fun z => absurd (sm i hil) (by omega), fun _ => ?_⟩
      refine ⟨_, _, rfl, sh, _, rfl, _, rfl, D, _, _, _, rfl, rfl, SqL.of (hs _ _ hu), atI_nat hat, ?_⟩
      refine ⟨_, _, rfl, sh, rfl, _, rfl, ifn (fun z => absurd rfl z) (fun _ => ⟨hs, hd⟩)⟩
    rintro H5 ⟨s5, hd5⟩
    refine ⟨Nat.zero_le _, fun e he => ⟨_, _, .lst (SqL.of (up he _ _ hd5)) .nil, .lst (SqL.of upd_same) .nil, rfl, rfl, false, rfl, iteF ?_⟩⟩
    refine hp_new he fun W sW _ => ?_
    have s45 : Same H4 W := s5.trans sW
    have hT := hT4.ext s45
    have d4 := d4.same s45
    have hu := s45 _ _ hu
    have hq := s45 _ _ hq4
    have ht : ∀ (i : Nat) (t : Addr), ts[i]? = some t → W t = some (HO.tup [V.int (dlen b c (j + i)), V.int (b ^ (j + i))]) := fun i t e => s45 _ _ (tb4 i t e)
    clear s45 hd5 s5 sW he hD1 hT4 tb4 hq4
    refine st_eq [some (.ref p), some (.ref q), none, none, none, some (.ref D), some (.int c), none, some (.int b), none, none] rfl ?_
    -- what is too long
    refine ⟨_, rfl, p, _, rfl, d4.at_, by decide, by decide, fun r H6 r0 r1 d6 => ?_⟩
    have u6 := d6.kp _ _ nDp hu
    have q6 := d6.kp _ _ nqp hq
    have ntp : ∀ (i : Nat) (t : Addr), ts[i]? = some t → t ≠ p := fun i t e z => by obtain ⟨xs, e2⟩ := d4.at_.lst; have := ht i t e; rw [z, e2] at this; cases this
    have t6 : ∀ (i : Nat) (t : Addr), ts[i]? = some t → H6 t = some (HO.tup [V.int (dlen b c (j + i)), V.int (b ^ (j + i))]) := fun i t e => d6.kp _ _ (ntp i t e) (ht i t e)
    have hT := tabs_drewT (K := K) d4.at_ d6 hT
    have d4 := d4.trans d6
    clear hu hq ht d6
    refine ⟨_, _, rfl, rfl, ⟨by decide, by decide, 4, by decide, by decide⟩, _, _, rfl, rfl, ⟨by decide, by decide, 150, by decide, by decide⟩, (by show 4 ≤ sizeLine; decide), fun L hL => ⟨L, rfl, ⟨_, SqL.of upd_same⟩, ?_⟩⟩
    have nLp : L ≠ p := d4.at_.ne hL
    have sL := up (o := .lst [.int 0, .int 1, .int r, .int (((10 : Int) ^ (45 : Int).toNat) ^ (2 : Int).toNat)]) hL
    have gL : upd H6 L (.lst [.int 0, .int 1, .int r, .int (((10 : Int) ^ (45 : Int).toNat) ^ (2 : Int).toNat)]) L = some (.lst [.int 0, .int 1, .int r, .int (((10 : Int) ^ (45 : Int).toNat) ^ (2 : Int).toNat)]) := upd_same
    have all : ∀ x ∈ [V.int 0, .int 1, .int r, .int (((10 : Int) ^ (45 : Int).toNat) ^ (2 : Int).toNat)], ∃ m : Nat, x = .int (m : Int) := fun x hx => by
      have key : ∀ z : Int, 0 ≤ z → ∃ m : Nat, V.int z = .int (m : Int) := fun z h => ⟨z.toNat, by rw [Int.toNat_of_nonneg h]⟩
      simp only [List.mem_cons, List.not_mem_nil, or_false] at hx
      rcases hx with rfl | rfl | rfl | rfl
      · exact key _ (by decide)
      · exact key _ (by decide)
      · exact key _ r0
      · exact key _ (by decide)
    obtain ⟨ms, hms⟩ : ∃ ms, ms = [V.int 0, .int 1, .int r, .int (((10 : Int) ^ (45 : Int).toNat) ^ (2 : Int).toNat)] := ⟨_, rfl⟩
    rw [← hms] at sL gL all ⊢
    clear hms
    have hT := hT.ext sL
    have d4 := d4.same sL
    have u6 := sL _ _ u6
    have q6 := sL _ _ q6
    have t6 : ∀ (i : Nat) (t : Addr), ts[i]? = some t → upd H6 L (.lst ms) t = some (HO.tup [V.int (dlen b c (j + i)), V.int (b ^ (j + i))]) := fun i t e => sL _ _ (t6 i t e)
    generalize upd H6 L (.lst ms) = G at hT d4 u6 q6 t6 gL ⊢
    clear sL hL
    have hpG := d4.at_
    refine for_list (K := K) (a := L) (xs := ms) (fun i σ H' => DrewT p G H' ∧ LamX.Tabs (tabsOf K) H' ∧ ∃ v, σ = [some (.ref p), some (.ref q), none, none, none, some (.ref D), some (.int c), v, some (.int b), none, none]) ⟨.refl hpG, hT, none, rfl⟩ (fun i σ H' _ h => SqL.of (h.1.kp _ _ nLp (fun ps z => by cases z) gL)) ?_ ?_
    · rintro i x σ H1 hi ⟨dt, hT, v, rfl⟩
      obtain ⟨m, rfl⟩ := all x (List.mem_of_getElem? hi)
      refine gn ⟨hT, fun G9 en hT9 => ⟨_, rfl, _, rfl, _, rfl, D, ds.map V.int, rfl, .inl (SqL.of ?_), _, rfl, _, _, rfl, rfl, ?_⟩⟩
      · exact en _ _ (dt.kp _ _ nDp (fun ps z => by cases z) u6) (fun ps z => by cases z)
      refine ⟨b, c, (ds.map V.int).length + m, j, rfl, b0, b1, c0, c1, hj, fun _ => ?_, fun z => ?_⟩
      · refine caught_fails (i := 18) (z := (toString ((10 : Int) ^ 60) : String)) T.et (by decide) (by decide) (by decide +kernel) (by decide +kernel) (.flat shown60) fun t G' s h => ?_
        refine ⟨_, _, rfl, rfl, ⟨by decide, by decide, 4, by decide, by decide⟩, _, _, rfl, shown60, (by show 2 ≤ sizeLine; decide), fun u hu => ?_⟩
        have o1 : PyData.strOk "TooLong" = true := by decide +kernel
        have o2 : PyData.strOk ((toString ((10 : Int) ^ 60) : String) : Str) = true := strOk_of _
        refine ⟨_, _, dp2 (up hu _ _ h), dp2 upd_same, shp_str2 o1 o2, shp_str2 o1 o2, _, rfl, ?_⟩
        rw [eqv_str2]
        exact iteF ⟨((dt.trans (ext_drewT dt.at_ en)).same s).same (up hu), (hT9.ext s).ext (up hu), _, rfl⟩
      · have := dlen_mono (c := c) b0 (show 1 ≤ j + ts.length by have := hj.pos; omega) (show j + ts.length ≤ j + ((ds.map V.int).length + m) by rw [List.length_map]; omega)
        omega
    rintro σ H1 ⟨dt, hT, v, rfl⟩
    have u6 := dt.kp _ _ nDp (fun ps z => by cases z) u6
    have q6 := dt.kp _ _ nqp (fun ps z => by cases z) q6
    have t6 : ∀ (i : Nat) (t : Addr), ts[i]? = some t → H1 t = some (HO.tup [V.int (dlen b c (j + i)), V.int (b ^ (j + i))]) := fun i t e => dt.kp _ _ (ntp i t e) (fun ps z => by cases z) (t6 i t e)
    have d5 := d4.t.trans dt
    clear dt d4 hpG gL all nLp hp
    have hp1 := d5.at_
    refine ⟨6, rfl, by decide, by decide, for_range (lo := 0) (fun i σ H' => DrewT p H1 H' ∧ LamX.Tabs (tabsOf K) H' ∧ ∃ v2 v3 v4 v7, σ = [some (.ref p), some (.ref q), v2, v3, v4, some (.ref D), some (.int c), v7, some (.int b), none, none]) ⟨.refl hp1, hT, none, none, none, _, rfl⟩ ?_ ?_⟩
    rotate_left
    · rintro σ H' ⟨d, t, _⟩
      exact k _ (d5.trans d) t
    rintro n σ G1 hn ⟨dt, hT1, v2, v3, v4, v7, rfl⟩
    refine gn ?_
    have q1 := dt.kp _ _ nqp (fun ps z => by cases z) q6
    have u1 := dt.kp _ _ nDp (fun ps z => by cases z) u6
    have t1 : ∀ (i : Nat) (t : Addr), ts[i]? = some t → G1 t = some (HO.tup [V.int (dlen b c (j + i)), V.int (b ^ (j + i))]) := fun i t e => dt.kp _ _ (ntp i t e) (fun ps z => by cases z) (t6 i t e)
    refine ⟨_, rfl, _, rfl, _, rfl, q, _, rfl, .inl (SqL.of q1), p, _, rfl, dt.at_, by rw [List.length_map]; omega, by rw [List.length_map]; omega, fun r2 G2 r20 r21 d2 => ?_⟩
    have kp2 : ∀ x o, x ≠ p → G1 x = some o → G2 x = some o := fun x o n e => d2.kp x o n e
    have dt2 := dt.trans d2.t
    have hT2 := tabs_drewT (K := K) dt.at_ d2 hT1
    have q2 := kp2 _ _ nqp q1
    have u2 := kp2 _ _ nDp u1
    obtain ⟨i, rfl⟩ : ∃ i : Nat, r2 = (i : Int) := ⟨r2.toNat, by omega⟩
    rw [List.length_map] at r21
    have il : i < ts.length := by omega
    obtain ⟨t, hti⟩ : ∃ t, ts[i]? = some t := ⟨_, List.getElem?_eq_getElem il⟩
    have ht2 := kp2 _ _ (ntp i t hti) (t1 i t hti)
    have p0 := pos i
    have pl := sm i il
    have jp := hj.pos
    clear t1 q1 u1 dt hT1 d2 kp2 r20 r21 hT
    refine ⟨q, _, _, _, rfl, rfl, SqL.of q2, atI_nat (j := i) (by rw [List.getElem?_map, hti]; rfl), t, _, rfl, SqT.of ht2, rfl, _, _, rfl, _, _, rfl, rfl, ?_⟩
    refine st_eq [some (.ref p), some (.ref q), some (.int (dlen b c (j + i))), some (.int (b ^ (j + i))), some (.int (0 + (n : Int))), some (.ref D), some (.int c), v7, some (.int b), none, none] rfl ?_
    refine ⟨_, rfl, _, rfl, _, rfl, b, c, dlen b c (j + i), rfl, b0, b1, c0, c1, p0, by omega, fun s two t5 G5 hs s1 h2 nt s5 ht5 => ?_⟩
    have es : s = b ^ (j + i) - 1 := two_at b0 c0 (by omega) p0 hs
    have etwo : two = true := h2.mpr ((two_iff b0 p0 c0 hs).mpr ⟨j + i, by omega, rfl⟩)
    subst etwo es
    have e1 : totL b (dlen b c (j + i) + c) (b ^ (j + i) - 1) true = [b ^ (j + i) - 1, b ^ (j + i)] := by
      show [b ^ (j + i) - 1, b ^ (j + i) - 1 + 1] = _
      rw [show b ^ (j + i) - 1 + 1 = b ^ (j + i) by omega]
    rw [e1] at ht5
    have bpow : 0 ≤ b ^ (j + i) ∧ b ^ (j + i) < 10 ^ 61 := by
      have h1 := pow_pos (show 1 ≤ b by omega) (j + i)
      have h3 : j + i ≤ 403 := by
        have z := isJ_near b0 hj
        have z2 : ¬ 202 ≤ j + i := fun z => by have := dlen_far (c := c) b0 c1 z; omega
        omega
      unfold dlen at pl
      exact ⟨by omega, by omega⟩
    have sh : Shows (.tuple ([b ^ (j + i) - 1, b ^ (j + i)].map PyData.int)) := shows_tuple (fun x hx => by
      have : x = b ^ (j + i) - 1 ∨ x = b ^ (j + i) := by simpa using hx
      omega) (by simp)
    refine ⟨t5, _, rfl, .tup (SqT.of ht5) (dp_ints [b ^ (j + i) - 1, b ^ (j + i)]), sh.1, sh.2.1, sh.2.2.1, sh.2.2.2, ?_⟩
    refine ⟨_, rfl, _, _, rfl, rfl, _, rfl, (by show 2 ≤ sizeLine; decide), fun w5 hw5 => ⟨w5, _, rfl, .tup (SqT.of upd_same) (dp_ints [b ^ (j + i) - 1, b ^ (j + i)]), sh.1, sh.2.1, sh.2.2.1, sh.2.2.2, rfl, _, rfl, ifn (fun z => absurd rfl z) (fun _ => ?_)⟩⟩
    refine hp_new hw5 fun G6 s6 _ => ?_
    have s56 : Same G2 G6 := fun _ _ e => s6 _ _ (s5 _ _ e)
    refine ⟨_, rfl, _, _, rfl, rfl, _, rfl, _, _, rfl, rfl, (by show 2 ≤ sizeLine; decide), fun L hL => ⟨L, rfl, ⟨_, SqL.of upd_same⟩, fun D1 hD1 => ?_⟩⟩
    have s7 : Same G2 (upd G6 L (.lst [.int (dlen b c (j + i) - 1), .int (dlen b c (j + i) + 1)])) := fun _ _ e => up hL _ _ (s56 _ _ e)
    refine lc_list (K := K) (a := L) (xs := [.int (dlen b c (j + i) - 1), .int (dlen b c (j + i) + 1)]) (Pv := fun _ H' => Same (upd G6 L (.lst [.int (dlen b c (j + i) - 1), .int (dlen b c (j + i) + 1)])) H' ∧ H' D1 = some (.lst [])) ⟨up hD1, upd_same⟩ (fun i H' _ h => SqL.of (h.1 _ _ upd_same)) ?_ ?_
    · rintro m x H' hi ⟨hs, hd⟩
      obtain ⟨a, rfl⟩ : ∃ a, x = V.int a := by
        have hx := List.mem_of_getElem? hi
        simp only [List.mem_cons, List.not_mem_nil, or_false] at hx
        rcases hx with rfl | rfl
        · exact ⟨_, rfl⟩
        · exact ⟨_, rfl⟩
      refine ⟨rfl, _, rfl, _, rfl, _, rfl, _, rfl, b, c, a, D, ds, rfl, b0, b1, c0, c1, hs _ _ (s7 _ _ u2), mem a, fun H'' s => ⟨true, rfl, ?_⟩⟩
      exact ⟨fun _ _ e => s _ _ (hs _ _ e), s _ _ hd⟩
    rintro H' ⟨hs, hd⟩
    refine ⟨Nat.zero_le _, fun e he => ⟨_, _, .lst (SqL.of (up he _ _ hd)) .nil, .lst (SqL.of upd_same) .nil, rfl, rfl, false, rfl, iteF ?_⟩⟩
    exact ⟨((dt2.same s7).same hs).same (up he), ((hT2.ext s7).ext hs).ext (up he), _, _, _, _, rfl⟩
end
theorem tabs_set {T : List (Addr × Str)} {D : Addr} {H : Hp} {xs ys : List V} (hD : H D = some (.lst xs)) (t : LamX.Tabs T H) : LamX.Tabs T (upd H D (.lst ys)) := fun q hq => by
  obtain ⟨ps, h1, h2, h3⟩ := t q hq
  refine ⟨ps, by rw [upd_ne (fun z => by rw [z, hD] at h1; cases h1)]; exact h1, h2, fun pos cv hc => ?_⟩
  obtain ⟨c, e1, e2⟩ := h3 pos cv hc
  exact ⟨c, e1, by rw [upd_ne (fun z => by rw [z, hD] at e2; cases e2)]; exact e2⟩
theorem sqL_ext {K : PySem.W.Frag} {H H' : Hp} {a : Addr} {xs : List V} (s : LamX.ExtN H H') (h : SqL K H a xs) : SqL K H' a xs := by
  rcases h with (h | ⟨o, h⟩) | h
  · exact .inl (.inl (s _ _ h (fun ps z => by cases z)))
  · exact .inl (.inr ⟨o, s _ _ h (fun ps z => by cases z)⟩)
  · exact .inr h
section
variable {P : Program} {w : World} {K : PySem.W.Frag} {mg : Str → Option Value} {base : Heap}
theorem ok_law (T : Tx K mg) (U : UT K mg base) : PromG P w K mg base 12 "law" s_law ["_law_script"] (spLaw K) := by
  refine PromG.of T.d_law sc_law (fun vs H Q E h => ?_) (fun _ _ _ _ _ _ us hl => match us, hl with | [_], _ => rfl) (fun f cdv A outer s H vs Q E hr hgd h => ?_)
  · obtain ⟨a, ns, rfl, _⟩ := h
    rfl
  · obtain ⟨a, ns, rfl, hS, hl, hz, hT, k⟩ := h
    refine ⟨_, (pss_one (ps_ret (pe_callB (cr_all rfl) (by rfl) T.b_all (by decide +kernel) (pa_cons (pe_lc (own := [("_law_k", 1)]) (g := (gName 1)) (tt := tYes) (by rfl) sc_law.nd (pi_range1 (by rfl) T.b_range (pa_cons (pe_callB (call_max2 rfl) (by rfl) T.b_max (by decide +kernel) (pa_cons pe_int (pa_cons (pe_callB (call_min2 rfl) (by rfl) T.b_min (by decide +kernel) (pa_cons (pe_callB call_len_seq (by rfl) T.b_len (by decide +kernel) (pa_cons (pv 0) pa_nil)) (pa_cons pe_int pa_nil))) pa_nil))) pa_nil)) (blkOk_by (own := [("_law_k", 1)]) (N := ["_law_script", "_law_k"]) (sc := defScope s_law) (by decide +kernel)) (fun _ _ _ _ _ => (pg_name (i := 1) sc_law.nd rfl (Or.inl rfl))) (fun _ _ _ _ _ => pts_nil) (fun _ _ _ _ _ => (pe_callG (ok_L_right T U) hgd (hr.mono (by decide)) (by rfl) (pa_cons (pe_callP (ok_L_purse T) (hr.mono (by decide)) (by rfl) pass0 (pa_cons (pe_callP (ok_L_cell T) (hr.mono (by decide)) (by rfl) pass0 (pa_cons (pv 0) (pa_cons (pv 1) pa_nil))) pa_nil)) pa_nil)))) pa_nil)))), ?_⟩
    refine ⟨_, rfl, _, _, rfl, .inl hS, _, _, rfl, _, _, rfl, _, rfl, ?_, ?_, fun D hD => ?_⟩
    · split <;> split <;> omega
    · split <;> split <;> omega
    refine lc_range (lo := 0) (Pv := fun i H' => LamX.ExtN H H' ∧ LamX.Tabs (tabsOf K) H' ∧ H' D = some (.lst (List.replicate i (.bl true)))) ⟨.of (up hD), hT.ext (up hD), upd_same⟩ ?_ ?_
    · rintro i H' hi ⟨hs, ht, hl2⟩
      refine ⟨rfl, _, rfl, _, rfl, a, ns, _, rfl, sqL_ext hs hS, by omega, ?_, fun z H2 s2 => ?_⟩
      · rw [List.length_map] at hi
        split at hi <;> split at hi <;> omega
      refine ⟨z, rfl, fun p H3 np s3 hp => ?_⟩
      have s23 : Same H' H3 := fun _ _ e => s3 _ _ (s2 _ _ e)
      refine ⟨p, rfl, hp, ht.ext s23, fun H4 d4 t4 => ?_⟩
      have nD : D ≠ p := ne_of_none (s2 _ _ hl2) np
      have e4 : H4 D = some (.lst (List.replicate i (.bl true))) := d4.kp _ _ nD (fun ps z => by cases z) (s23 _ _ hl2)
      refine ⟨_, e4, ?_, fun b o e tb => ?_, tabs_set e4 t4, ?_⟩
      · rw [List.length_replicate]
        rw [List.length_map] at hi
        refine Nat.lt_of_lt_of_le (m := 100) ?_ (by decide)
        split at hi <;> split at hi <;> omega
      · have eb : H2 b = some o := s2 _ _ (hs _ _ e tb)
        rw [upd_ne (ne_of_none e hD)]
        exact d4.kp _ _ (ne_of_none eb np) tb (s3 _ _ eb)
      · rw [upd_same, List.replicate_succ']
    · rintro H' ⟨hs, ht, hl2⟩
      refine ⟨D, List.replicate _ true, rfl, SqL.of (by rw [List.map_replicate]; exact hl2), ?_⟩
      have e : ∀ n : Nat, (List.replicate n true).all id = true := fun n => by simp
      show Q (.bl ((List.replicate _ true).all id)) H'
      rw [e]
      exact k _
end
theorem facts {P : Program} {w : World} {K : PySem.W.Frag} {h : Heap} {mg : Str → Option Value} {f : Addr} (X : K.In h) (G : h.Ns mainGlobals mg) (hfa : mg ("law" : Str) = some (.ref f)) (c0 : SaysX fbL faL fnL tabL w K) :
    ∃ fd : FuncData, (∀ (s : Shared) (v : Value), BindsTo s fd ⟨[v], []⟩ [("_law_script", v)]) ∧ ∀ base : Heap, K.In base → base.Ns mainGlobals mg → UT K mg base → FnG P w K mg base 12 f fd ["_law_script"] (spLaw K) := by
  have T := tx_of (w := w) X G c0
  have c : He.SaysD faL fnL K := c0.t.d
  obtain ⟨fd, F⟩ := c.def_ 19 (d := dd_law) rfl
  have hm := He.glo_ok X G (c.fact 19 (f := .glo "law") rfl)
  have e := hfa.symm.trans hm
  cases e
  have b := FunD.bindsA (ps := ["_law_script"]) F fun _ _ _ _ _ _ us hl => match us, hl with | [_], _ => rfl
  refine ⟨fd, fun s v => b s [v] rfl, fun base _ _ U => ?_⟩
  obtain ⟨f', fd', F', hm', D', _⟩ := (ok_law (P := P) (w := w) (base := base) T U).ex
  cases hm.symm.trans hm'
  have efd : fd' = fd := by
    obtain ⟨_, _, _, _, _, _, _, _, _, _, _, l1, _⟩ := F.ex
    obtain ⟨_, _, _, _, _, _, _, _, _, _, _, l2, _⟩ := D'.ex
    have l2' := l2.symm.trans l1
    injection l2' with l3
    injection l3 with _ _ l4 _
    injection l4
  rw [← efd]
  exact F' 
end Sz
open PySem PySem.W PySem.Calls PyProof.Rows in
set_option maxRecDepth 100000 in
set_option maxHeartbeats 0 in
theorem PySem.Challenge.cw_sizestacks_k65_whole_all_that_have_two_holds : PySem.Challenge.rw_sizestacks_k65_whole_all_that_have_two.Holds := by
  w_on; o_law
  refine HandSHeadRun.head_any (r := OpenLaw.row PySem.Challenge.rw_sizestacks_k65_whole_all_that_have_two) (q := view (OpenLaw.row PySem.Challenge.rw_sizestacks_k65_whole_all_that_have_two).prog [50]) (H := Sz.hk) (ob := Sz.ob) (M := 30000) (loose := Sz.looseL) (d := HandSHeadRun.topDef (OpenLaw.row PySem.Challenge.rw_sizestacks_k65_whole_all_that_have_two).prog 50) (kwd := []) Sz.ob_eq
    (by kernel_rfl) (fun z => by kernel_rfl) Sz.run (by kernel_rfl) (by kernel_rfl) (by kernel_rfl) (by rfl) (by first | assumption | decide +kernel) (by decide +kernel) ⟨rfl, rfl, rfl, rfl, rfl, by decide +kernel⟩ ?hw ?hc
  case hw => w_witness2
  case hc =>
    refine Sz.walk_ofGT (l := PySem.Challenge.rw_sizestacks_k65_whole_all_that_have_two) (n := 63) (k := 12) (x := "_law_script") rfl (by decide) (by kernel_rfl) ⟨rfl, by decide, by decide⟩ ?F
    intro w mg fa h Y G hmg0
    obtain ⟨K, KX, c⟩ := Y
    have hmg : mg ("law" : PySem.Str) = some (.ref fa) := by
      have e : (HandSHeadRun.topDef (OpenLaw.row PySem.Challenge.rw_sizestacks_k65_whole_all_that_have_two).prog 50).name = ("law" : PySem.Str) := by kernel_rfl
      rw [← e]
      exact hmg0
    obtain ⟨fd, hb, hF⟩ := Sz.facts (P := (PySem.Challenge.rw_sizestacks_k65_whole_all_that_have_two).prog) (w := w) KX G hmg c.x
    have inT : ∀ p ∈ Sz.tfL.map (He.cT K), ∃ d ∈ Sz.tfL, He.cT K d = p := fun p hp => List.mem_map.mp hp
    refine ⟨K, fd, Sz.spLaw K, Sz.tfL.map (He.cT K), KX, fun p hp => ?_, fun p hp => ?_, fun p hp => ?_, hb, fun H a ns hl hz hT hS => ⟨a, ns, rfl, hS, hl, hz, Sz.tabs_start hT, fun _ => rfl⟩, hF⟩
    · obtain ⟨d, hd, rfl⟩ := inT p hp
      exact c.empty d hd
    · obtain ⟨d, hd, rfl⟩ := inT p hp
      exact c.out d hd
    · obtain ⟨d, hd, rfl⟩ := inT p hp
      exact PySem.W.codeHd_of_K KX (c.hd d hd)
