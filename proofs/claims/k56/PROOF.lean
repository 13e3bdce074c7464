import PyProof.Rows.All
import Wide.All
import OpenK.AllK
import Wide.FinOn
import KE.KStateDown
import HandS.ForMost
import HandS.Exc
import HandS.Wide
import HandS.WideBits
import HandS.IsInst
import HandS.Style
import HandS.RaiseMore
import HandS.Defaults
import HandS.Evl
import HandS.EndBits
import HandS.Words
import HandS.WordsExc
import HandS.Head0
import HandS.Head1
import HandS.Head2
import HandS.HeadEnd
import HandS.HeadHook1
import HandS.HeadHook2
import HandS.HeadHook3
import HandS.Star
import HandS.FStr
import HandS.Text
import HandS.Walk
import KE.GoesMore
import PyProof.LongRange
import HandS.Conv
import PyProof.StrLawsRepr
import PyProof.InstSpecial
import HandS.OwnEq
import KE.KFmtOwn
import PyProof.InstNe
import HandS.SetBool
import HandS.Strs
import HandS.SortInts
import HandS.Zip
import HandS.TupAny
import HandS.ExcInit
import HandS.HotCalls
import HandS.ExcIs
import HandS.ExcField
import KE.KTryMore
import KE.KExcInit
import HandS.SetFor
import HandS.EndTab
import HandS.HeadHook4
import OpenK.KOps
import HandS.Replace
import PyProof.MeetsIn
import HandS.DeepEq
import HandS.Deep
import KE.IntTextLaws
import PySem.Challenge.RW_sizestacks_k56_whole_payloads_and_missed
set_option Elab.async false
set_option linter.all false
set_option maxRecDepth 100000
set_option maxHeartbeats 4000000
set_option exponentiation.threshold 20000
/-! Own base: a def by its promise, a few rules more. -/
namespace Sz
open PySem PySem.Spec PyProof.Rows L2

/-- a def of the text, by its name -/
def DefAt (K : PySem.W.Frag) (mg : Str → Option Value) (x : Str) (st : Stmt) : Prop :=
  ∃ f fd, FunD K x x (defArgs st) (defBody st) (defScope st) [] [] f fd ∧ mg x = some (.ref f)

/-- the def named x keeps the promise sp -/
structure Prom (P : Program) (w : World) (K : PySem.W.Frag) (mg : Str → Option Value) (base : Heap) (CX : CXT) (k : Nat) (x : Str) (st : Stmt) (ps : List Str) (sp : Sp) : Prop where
  ex : ∃ f fd, FnOk P w K mg base CX k f fd ps sp ∧ mg x = some (.ref f) ∧ FunD K x x (defArgs st) (defBody st) (defScope st) [] [] f fd ∧ Binds K fd ps []

section
variable {P : Program} {w : World} {K : PySem.W.Frag} {mg : Str → Option Value} {base : Heap}
theorem Prom.of {x : Str} {st : Stmt} {ps N : List Str} {sp : Sp} {k : Nat} (D : DefAt K mg x st) (S : FnScope N ps (defScope st)) (len : ∀ vs H Q E, sp vs H Q E → vs.length = ps.length)
    (hb : ∀ (kV doc pm : Value) (an : Option Addr) (cdv ct : Value) (us : List Value), us.length = ps.length → bindArgs (PySem.W.fnOf x x (defArgs st) (defBody st) (defScope st) .none kV doc pm an cdv ct) ⟨us, []⟩ = pure (ps.zip us))
    (hbody : ∀ (f : Addr) (cdv : Value) (A : Around) (outer : List Env) (s : Shared) (H : Hp) (vs : List V) (Q : VK) (E : XK), Room k (A.deeper (envOfC x (defScope st) s.heap.objs.size f cdv)) → sp vs H Q E →
      ∃ t, PSs (cxOf CX0 P w K mg base N x (defScope st) f cdv A outer s H E).nox (defBody st) t ∧ t { nx := fun _ H' => Q .non H', rt := Q } (start N vs) H) :
    Prom P w K mg base CX0 (k + 1) x st ps sp := by
  obtain ⟨f, fd, F, hm⟩ := D
  refine ⟨f, fd, F.ok S len (fun cdv A outer s H vs Q E hr hs => ?_), hm, F, F.bindsN hb⟩
  obtain ⟨t, h1, h2⟩ := hbody f cdv A outer s H vs Q E hr hs
  exact ⟨t, h1.nox, h2⟩
end

section
variable {X : Cx} {CX : CXT} {k : Nat} {x : Str} {st : Stmt} {ps : List Str} {sp : Sp} {E : XK} {e : Expr} {es : List Expr} {t tk : TA} {p pos : Pos} {kws : List Keyword} {ks : List Str}
theorem pe_callP (G : Prom X.prog X.w X.K X.mg X.base CX k x st ps sp) (hr : Room k X.A) (hg : Gl X x) (hx : Passes CX X E) (ha : PA X (e :: es) t)
    (hdb : (x == ("__debug__" : Str)) = false := by decide) (he : starEach (e :: es) X.env = (false, eval e X.env) :: starEach es X.env := by rfl) (hpl : (backTo pos (starEach es X.env)).any (·.1) = false := by rfl) :
    PE X (.Call (.Name x p) (e :: es) [] pos) (tCall sp [] E t) := by
  obtain ⟨f, fd, F, hm, D, hb⟩ := G.ex
  exact pe_call F hr hg hm D.kp hb .nil hx ha hdb he hpl
/-- f(k = v, ..), keywords alone -/
theorem pe_callKP {g : List Value → List Value → List Value} {gV : List V → List V → List V} (G : Prom X.prog X.w X.K X.mg X.base CX k x st ps sp) (hr : Room k X.A) (hg : Gl X x) 
    (hb : ∀ fd f, FunD X.K x x (defArgs st) (defBody st) (defScope st) [] [] f fd → KBinds X.K fd ps ks g gV) (hx : Passes CX X E)
    (hkw : PK X kws tk) (hall : (backToKw pos (keywordEach kws X.env)).all (·.1.isSome) = true := by rfl) (hks : (backToKw pos (keywordEach kws X.env)).filterMap (·.1) = ks := by rfl)
    (hdb : (x == ("__debug__" : Str)) = false := by decide)
    (hpl : ((backTo pos (starEach [] X.env)).any (·.1) || (backToKw pos (keywordEach kws X.env)).any (·.1.isNone)) = false := by rfl) :
    PE X (.Call (.Name x p) [] kws pos) (tCallK sp gV E tNil tk) := by
  obtain ⟨f, fd, F, hm, D, _⟩ := G.ex
  have hb := hb fd f D
  refine ⟨fun pins s σ H Q I h => ?_⟩
  refine wpAny_Call_Name_kw (ld_glob I hg hm ?_ hdb)
  refine PySem.W.callWith_KW0 (h₀ := X.base) I.ok.mod.kin D.kp hall (thn (hkw.run pos pins s σ H _ I h) fun ws s2 z => ?_) hpl
  obtain ⟨zs, H2, I2, rz, q2⟩ := z
  refine ⟨I2.kIn, ?_⟩
  rw [hks]
  exact run_fnk F hr hb hx I2 .nil rz q2
/-- the keywords' values put in the parameters' order -/
def perm {α : Type} (ix : List Nat) (us ws : List α) : List α := match us with
  | [] => if ws.length = ix.length then ix.filterMap fun i => ws[i]? else []
  | _ :: _ => []
theorem perm_vals {ix : List Nat} {vs zs : List V} {us ws : List Value} (r : Vals vs us) (z : Vals zs ws) : Vals (perm ix vs zs) (perm ix us ws) := by
  cases r with
  | cons _ _ => exact .nil
  | nil =>
    show Vals (if zs.length = ix.length then _ else _) (if ws.length = ix.length then _ else _)
    rw [z.length]
    by_cases c : ws.length = ix.length
    · rw [if_pos c, if_pos c]
      clear c
      induction ix with
      | nil => exact .nil
      | cons i ix ih =>
        rw [List.filterMap_cons, List.filterMap_cons]
        cases e : zs[i]? with
        | none =>
          rw [z.none_of e]
          exact ih
        | some v =>
          obtain ⟨u, hu, rv⟩ := z.get e
          rw [hu]
          exact .cons rv ih
    · rw [if_neg c, if_neg c]
      exact .nil
theorem kb_of {K : PySem.W.Frag} (ix : List Nat) (hne : 0 < ps.length)
    (h : ∀ (kV doc pm : Value) (an : Option Addr) (cdv ct : Value) (ws : List Value), ws.length = ix.length → bindArgs (PySem.W.fnOf x x (defArgs st) (defBody st) (defScope st) .none kV doc pm an cdv ct) ⟨[], ks.zip ws⟩ = pure (ps.zip (perm ix [] ws))) :
    ∀ fd f, FunD K x x (defArgs st) (defBody st) (defScope st) [] [] f fd → KBinds K fd ps ks (perm ix) (perm ix) := fun fd f F => by
  obtain ⟨oc, od, dV, kV, doc, pm, an, cdv, ct, osl, rfl, lk, hcd, hD, hK⟩ := F.ex
  rcases hD with ⟨_, rfl⟩ | ⟨e, _⟩
  · refine ⟨fun s us ws _ hl => ?_, fun r z => perm_vals r z⟩
    cases us with
    | cons u us =>
      have e0 : (perm ix (u :: us) ws).length = 0 := rfl
      omega
    | nil =>
      by_cases c : ws.length = ix.length
      · exact .of_eq (h kV doc pm an cdv ct ws c)
      · have e0 : perm ix [] ws = [] := if_neg c
        rw [e0] at hl
        simp at hl
        omega
  · exact absurd rfl e
/-- a constant of the module -/
theorem pe_gint {v : Int} (h : ∃ u, X.mg x = some (.int v u)) (hg : Gl X x := by rfl) (hd : (x == ("__debug__" : Str)) = false := by decide) : PE X (.Name x pos) (tC (.int v)) := by
  obtain ⟨u, hm⟩ := h
  exact pe_glob hg hm ⟨_, rfl⟩ hd
theorem op_isnotBl : OpR X (compareOp .IsNot) (fun x y H Q => ∃ b : Bool, y = .bl b ∧ Q (.bl (!decide (x = .bl b))) H) := by
  intro pins s σ H x y v u Q I rx ry h
  obtain ⟨b, rfl, q⟩ := h
  cases (show u = Value.bool b from ry)
  have key : plainIs v (Value.bool b) = true ∧ (v = Value.bool b ↔ x = .bl b) := by
    cases x with
    | non => cases (show v = Value.none from rx); exact ⟨rfl, by constructor <;> intro z <;> cases z⟩
    | bl c => cases (show v = Value.bool c from rx); exact ⟨rfl, by constructor <;> intro z <;> cases z <;> rfl⟩
    | int i => obtain ⟨t, rfl⟩ := (show ∃ t, v = Value.int i t from rx); exact ⟨rfl, by constructor <;> intro z <;> cases z⟩
    | str i => obtain ⟨t, rfl⟩ := (show ∃ t, v = Value.str i t from rx); exact ⟨rfl, by constructor <;> intro z <;> cases z⟩
    | byt i => obtain ⟨t, rfl⟩ := (show ∃ t, v = Value.bytes i t from rx); exact ⟨rfl, by constructor <;> intro z <;> cases z⟩
    | flt i => obtain ⟨t, rfl⟩ := (show ∃ t, v = Value.float i t from rx); exact ⟨rfl, by constructor <;> intro z <;> cases z⟩
    | ref a => cases (show v = Value.ref a from rx); exact ⟨rfl, by constructor <;> intro z <;> cases z⟩
    | ty n => cases (show v = Value.type n from rx); exact ⟨rfl, by constructor <;> intro z <;> cases z⟩
  by_cases e : x = .bl b
  · have ev := key.2.mpr e
    subst ev
    exact wpAny_isNot_self rfl ⟨.bl false, H, I, rfl, by simpa [e] using q⟩
  · exact wpAny_isNot_other key.1 (fun z => e (key.2.mp z)) ⟨.bl true, H, I, rfl, by simpa [e] using q⟩
/-- repr of a flat value -/
def flatShown : V → Option Str
  | .non => some "None"
  | .bl b => some (if b then "True" else "False")
  | .int i => if i.natAbs.log2 < 1920 then some (toString i) else none
  | _ => none
theorem cr_repr : CallR X (.builtin "repr") (fun xs H Q => ∃ v z, xs = [v] ∧ flatShown v = some z ∧ Q (.str z) H) := by
  intro pins s σ H xs us Q I r h
  obtain ⟨v, z, rfl, hz, q⟩ := h
  obtain ⟨u, rfl, ru⟩ := vals1 r
  cases v with
  | non =>
    cases (show u = Value.none from ru)
    obtain rfl : ("None" : Str) = z := Option.some.inj hz
    exact PySem.P.repr_of_none ⟨.str _, H, I.tok _, ⟨_, rfl⟩, q⟩
  | bl b =>
    cases (show u = Value.bool b from ru)
    obtain rfl : (if b then "True" else "False" : Str) = z := Option.some.inj hz
    exact PySem.P.repr_of_bool ⟨.str _, H, I.tok _, ⟨_, rfl⟩, q⟩
  | int i =>
    obtain ⟨t, rfl⟩ := (show ∃ t, u = Value.int i t from ru)
    have hz2 : (if i.natAbs.log2 < 1920 then some (toString i : Str) else none) = some z := hz
    by_cases c : i.natAbs.log2 < 1920
    · rw [if_pos c] at hz2
      obtain rfl := Option.some.inj hz2
      exact PySem.P.repr_of_int c ⟨.str _, H, I.tok _, ⟨_, rfl⟩, q⟩
    · rw [if_neg c] at hz2
      cases hz2
  | _ => cases hz
/-- a power of any size that the model takes -/
def CPowW (i j : Int) : Prop := 1 < i ∧ 0 < j ∧ ∃ n : Nat, i.natAbs < 2 ^ n ∧ (n : Int) * j ≤ 134217728
theorem op_powW : OpR X (binaryOp .Pow) (rI CPowW fun i j => .int (i ^ j.toNat)) := opI fun i j t u s Q E hc q => by
  obtain ⟨h1, h2, n, h3, h4⟩ := hc
  have hb : ¬ Builtin.Int.intTooBig (((Builtin.Int.intBits i : Nat) : Int) * j) = true := by
    have e : bitsLine = 134217728 := by decide
    have b := PyProof.Rows.intBits_le h3
    have m : ((Builtin.Int.intBits i : Nat) : Int) * j ≤ (n : Int) * j := Int.mul_le_mul_of_nonneg_right (by omega) (by omega)
    unfold Builtin.Int.intTooBig
    rw [decide_eq_true_eq, e]
    omega
  refine PySem.AutoIntOps.pow_4 (by omega) (by simpa using (show ¬ j = 0 by omega)) (by simpa using (show ¬ i = 0 ∧ ¬ i = 1 by omega)) (by simpa using (show ¬ i = -1 by omega)) hb ?_
  exact q
/-- divmod by a positive number of at most 30 figures -/
theorem divp_small {i j : Int} (h : 0 < j) (h2 : j ≤ 1000000000000000000000000000000) : CDivP i j := by
  refine ⟨h, PyProof.noPylong_of_log2 ?_⟩
  have h3 : j.natAbs < 2 ^ 200 := Nat.lt_of_le_of_lt (show j.natAbs ≤ 1000000000000000000000000000000 by omega) (by decide)
  exact Nat.lt_of_lt_of_le (PySem.Flt.log2_lt_of (by decide) h3) (by decide)
end
/-! ### what an if's test says -/
theorem ifd {c A B : Prop} [Decidable c] (h1 : c → A) (h2 : ¬ c → B) : if decide c = true then A else B := by
  by_cases h : c
  · rw [decide_eq_true h, if_pos rfl]; exact h1 h
  · rw [decide_eq_false h, if_neg Bool.false_ne_true]; exact h2 h
theorem ifd_pos {c A B : Prop} [Decidable c] (h : c) (hA : A) : if decide c = true then A else B := by
  rw [decide_eq_true h, if_pos rfl]; exact hA
theorem ifd_neg {c A B : Prop} [Decidable c] (h : ¬ c) (hB : B) : if decide c = true then A else B := by
  rw [decide_eq_false h, if_neg Bool.false_ne_true]; exact hB
theorem ifn {c A B : Prop} [Decidable c] (h1 : ¬ c → A) (h2 : c → B) : if (!decide c) = true then A else B := by
  by_cases h : c
  · rw [decide_eq_true h]; exact h2 h
  · rw [decide_eq_false h]; exact h1 h
/-- all but p stands as it stood -/
def Kp (p : Addr) (H H' : Hp) : Prop := ∀ b o, b ≠ p → H b = some o → H' b = some o
theorem Kp.refl (p : Addr) (H : Hp) : Kp p H H := fun _ _ _ h => h
theorem Kp.trans {p : Addr} {H H1 H2 : Hp} (a : Kp p H H1) (b : Kp p H1 H2) : Kp p H H2 := fun c o n h => b c o n (a c o n h)
theorem Kp.set {p : Addr} {H H' : Hp} {o : HO} (a : Kp p H H') : Kp p H (L2.upd H' p o) := fun b u n h => by
  rw [upd_ne n]
  exact a b u n h
theorem Kp.new {p q : Addr} {H H' : Hp} {o : HO} (a : Kp p H H') (h : H' q = none) : Kp p H (upd H' q o) := fun b u n e => by
  have e2 := a b u n e
  rw [upd_ne (ne_of_none e2 h)]
  exact e2
end Sz
namespace Sz
open PySem PySem.Spec PyProof.Rows L2
/-! ### defs that show containers: nothing is being shown around their call -/
structure FnG (P : Program) (w : World) (K : PySem.W.Frag) (mg : Str → Option Value) (base : Heap) (k : Nat) (f : Addr) (fd : FuncData) (ps : List Str) (sp : Sp) : Prop where
  len : ∀ vs H Q E, sp vs H Q E → vs.length = ps.length
  run : ∀ (A : Around) (outer : List Env) (s : Shared) (H : Hp) (args : Args) (us : List Value) (vs : List V) (Q : VK) (E : XK), Room k A → A.guards = some [] → Env0 P w K mg base A outer s H →
    BindsTo s fd args (ps.zip us) → Vals vs us → sp vs H Q E → codeAny (model P w) A (.call (.ref f) args) (CR CX0 outer P w H s Q E) s
theorem FnG.of {P : Program} {w : World} {K : PySem.W.Frag} {mg : Str → Option Value} {base : Heap} {k : Nat} {f : Addr} {fd : FuncData} {ps : List Str} {sp : Sp} (F : FnOk P w K mg base CX0 k f fd ps sp) : FnG P w K mg base k f fd ps sp :=
  ⟨F.len, fun A outer s H args us vs Q E hr _ e0 hb r h => F.run A outer s H args us vs Q E hr e0 hb r h⟩
/-- from the body -/
theorem fnG_of {P : Program} {w : World} {K : PySem.W.Frag} {mg : Str → Option Value} {base : Heap} {k : Nat} {f : Addr} {x q : Str} {pr : Arguments} {bd : List Stmt} {sc : Scope} {dvs : List V} {kws : List (Str × V)} {fd : FuncData} {N ps : List Str} {sp : Sp}
    (F : FunD K x q pr bd sc dvs kws f fd) (S : FnScope N ps sc) (len : ∀ vs H Q E, sp vs H Q E → vs.length = ps.length)
    (hbody : ∀ (cdv : Value) (A : Around) (outer : List Env) (s : Shared) (H : Hp) (vs : List V) (Q : VK) (E : XK), Room k (A.deeper (envOfC q sc s.heap.objs.size f cdv)) → (A.deeper (envOfC q sc s.heap.objs.size f cdv)).guards = some [] → sp vs H Q E →
      ∃ t, PSs (cxOf CX0 P w K mg base N q sc f cdv A outer s H E).nox bd t ∧ t { nx := fun _ H' => Q .non H', rt := Q } (start N vs) H) : FnG P w K mg base (k + 1) f fd ps sp := by
  obtain ⟨c1, c2, c3, c4, c5, c6, c7, cdv, c9, c10, rfl, look, code, _, _⟩ := F.ex
  refine ⟨len, fun A outer s H args us vs Q E room gd e0 hbind rel want => ?_⟩
  have old : ∀ b o, base.get? b = some o → s.heap.get? b = some o := fun b o e => (e0.bs b o e).1
  have inK : K.In s.heap := e0.mod.kin.keeps old
  have kinds : ∀ y ∈ ps.zip us, sc.names.lookup y.1 = some .local ∨ (sc.names.lookup y.1 = some .cell ∧ ((cellsFrom (s.heap.objs.size + 1) sc.names []).lookup y.1).isSome = true) := by
    rintro ⟨n, v⟩ hy
    have hm : n ∈ ps := (List.of_mem_zip hy).1
    cases S.par n hm with
    | inl z => exact Or.inl z
    | inr z => exact Or.inr ⟨z, PySem.W.cellsFrom_some _ _ _ (.inl z)⟩
  obtain ⟨t, dt, rt⟩ := hbody cdv A outer s H vs Q E (room.deeper _) gd want
  have dt := dt.nox
  refine codeAny_call_function room.depth (inK _ _ look) rfl S.co S.gen rfl (PySem.W.codeRec_of inK code) ?_
  refine hbind _ _ _ _ (wpAny_newFunctionEnv_cells S.kind kinds ?_)
  rintro _ rfl s1 ic
  refine ⟨(e0.mod.nolimit.keeps old).keeps ic.toInCall.keep, codeAny_func ?_⟩
  refine wpAny_mono (dt.run [] s1 (start N vs) H _ (inv_start S room.hd e0 (len _ _ _ _ want) rel ic) rt) ?_ (fun _ _ z => z)
  intro fl s' hs
  cases fl with
  | ret u => exact let ⟨v, _, H', J, rv, qv⟩ := hs; ⟨v, H', J.os, J.bare, J.base, J.hok, rv, qv⟩
  | next => exact let ⟨_, H', J, qv⟩ := hs; ⟨.non, H', J.os, J.bare, J.base, J.hok, rfl, qv⟩
  | brk => exact let ⟨_, _, _, qv⟩ := hs; False.elim qv
  | cont => exact let ⟨_, _, _, qv⟩ := hs; False.elim qv
/-- the def named x keeps the promise sp where nothing is being shown -/
structure PromG (P : Program) (w : World) (K : PySem.W.Frag) (mg : Str → Option Value) (base : Heap) (k : Nat) (x : Str) (st : Stmt) (ps : List Str) (sp : Sp) : Prop where
  ex : ∃ f fd, FnG P w K mg base k f fd ps sp ∧ mg x = some (.ref f) ∧ FunD K x x (defArgs st) (defBody st) (defScope st) [] [] f fd ∧ Binds K fd ps []
section
variable {P : Program} {w : World} {K : PySem.W.Frag} {mg : Str → Option Value} {base : Heap}
theorem PromG.of {x : Str} {st : Stmt} {ps N : List Str} {sp : Sp} {k : Nat} (D : DefAt K mg x st) (S : FnScope N ps (defScope st)) (len : ∀ vs H Q E, sp vs H Q E → vs.length = ps.length)
    (hb : ∀ (kV doc pm : Value) (an : Option Addr) (cdv ct : Value) (us : List Value), us.length = ps.length → bindArgs (PySem.W.fnOf x x (defArgs st) (defBody st) (defScope st) .none kV doc pm an cdv ct) ⟨us, []⟩ = pure (ps.zip us))
    (hbody : ∀ (f : Addr) (cdv : Value) (A : Around) (outer : List Env) (s : Shared) (H : Hp) (vs : List V) (Q : VK) (E : XK), Room k (A.deeper (envOfC x (defScope st) s.heap.objs.size f cdv)) → (A.deeper (envOfC x (defScope st) s.heap.objs.size f cdv)).guards = some [] → sp vs H Q E →
      ∃ t, PSs (cxOf CX0 P w K mg base N x (defScope st) f cdv A outer s H E).nox (defBody st) t ∧ t { nx := fun _ H' => Q .non H', rt := Q } (start N vs) H) :
    PromG P w K mg base (k + 1) x st ps sp := by
  obtain ⟨f, fd, F, hm⟩ := D
  exact ⟨f, fd, fnG_of F S len (fun cdv A outer s H vs Q E hr hg hs => hbody f cdv A outer s H vs Q E hr hg hs), hm, F, F.bindsN hb⟩
theorem Prom.g {x : Str} {st : Stmt} {ps : List Str} {sp : Sp} {k : Nat} (G : Prom P w K mg base CX0 k x st ps sp) : PromG P w K mg base k x st ps sp := by
  obtain ⟨f, fd, F, r⟩ := G.ex
  exact ⟨f, fd, FnG.of F, r⟩
end
section
variable {X : Cx} {k : Nat} {x : Str} {st : Stmt} {ps : List Str} {sp : Sp} {e : Expr} {es : List Expr} {t : TA} {p pos : Pos}
/-- f(..) of such a def -/
theorem pe_callG (G : PromG X.prog X.w X.K X.mg X.base k x st ps sp) (gd : X.A.guards = some []) (hr : Room k X.A) (hg : Gl X x) (ha : PA X (e :: es) t)
    (hdb : (x == ("__debug__" : Str)) = false := by decide) (he : starEach (e :: es) X.env = (false, eval e X.env) :: starEach es X.env := by rfl) (hpl : (backTo pos (starEach es X.env)).any (·.1) = false := by rfl) :
    PE X (.Call (.Name x p) (e :: es) [] pos) (tCall sp [] E0 t) := by
  obtain ⟨f, fd, F, hm, D, hb⟩ := G.ex
  constructor
  intro pins s σ H Q I h
  refine wpAny_Call_Name_kw (ld_glob I hg hm (PySem.W.callWith_K (h₀ := X.base) I.ok.mod.kin D.kp (thn (ha.run pos pins s σ H _ I h) ?_) he hpl) hdb)
  rintro us s1 ⟨vs, H1, I1, rel, want⟩
  refine ⟨I1.kIn, wpAny_call (codeAny_mono (F.run X.A X.stack s1 H1 ⟨us, []⟩ (us ++ []) (vs ++ []) Q E0 hr gd I1.env0 (hb s1 us I1.kIn ?_) (rel.append .nil) want) ?_)⟩
  · rw [← (rel.append Paired.nil).length]
    exact F.len _ _ _ _ want
  · intro r s' hq
    cases r with
    | error z => exact False.elim hq
    | ok fl =>
      cases fl with
      | ret u => exact I1.after hq
      | next => exact False.elim hq
      | brk => exact False.elim hq
      | cont => exact False.elim hq
/-- repr of data at any depth -/
theorem cr_reprD (gd : X.A.guards = some []) (hu : X.A.units + 64 < cLine) : CallR X (.builtin "repr") (fun xs H Q => ∃ (a : Addr) (d : PyData), xs = [.ref a] ∧ Dp X.K H (.ref a) d ∧ d.showable = true ∧ d.hasDict = false ∧ d.depth ≤ 40 ∧ d.shown.length ≤ sizeLine ∧ Q (.str d.shown) H) := by
  intro pins s σ H xs us Q I r h
  obtain ⟨a, d, rfl, hd, h1, h2, h3, h4, q⟩ := h
  obtain ⟨u, rfl, ru⟩ := vals1 r
  obtain ⟨as, rd⟩ := Dp.reads I d _ u hd ru
  cases (show u = Value.ref a from ru)
  refine repr_of_reads' rd h1 (PyData.noDict_hsm h2) gd (by omega) (fun _ _ z => z) (fun h' tok tk kept => ?_) h4
  exact ⟨.str d.shown, H, I.kept (t' := tk) kept, ⟨_, rfl⟩, q⟩
end
/-! ### the law's call -/
section
variable {P : Program} {w : World} {K : PySem.W.Frag} {mg mb : Str → Option Value} {k : Nat} {fa a : Addr} {fd : FuncData} {x : Str} {sp : Sp} {st : Shared} {vs : List Value} {ns : List Int}
/-- the script as the law finds it -/
def scriptHp (K : PySem.W.Frag) (a : Addr) (vs : List Value) (ns : List Int) : Hp := fun b => if b = a ∧ K.lookup a = none then some (.frz { cls := .type "list", data := .seq vs.toArray } (.lst (ns.map V.int))) else none
theorem scriptHp_some {b : Addr} {u : HO} (h : scriptHp K a vs ns b = some u) : b = a ∧ K.lookup a = none ∧ u = .frz { cls := .type "list", data := .seq vs.toArray } (.lst (ns.map V.int)) := by
  unfold scriptHp at h
  by_cases c : b = a ∧ K.lookup a = none
  · rw [if_pos c] at h
    exact ⟨c.1, c.2, (Option.some.inj h).symm⟩
  · rw [if_neg c] at h
    cases h
theorem scriptHp_none {b : Addr} (h : b ≠ a) : scriptHp K a vs ns b = none := if_neg fun z => h z.1
theorem law_callG (KX : K.In st.heap) (gl : st.heap.Ns mainGlobals mg) (bl : st.heap.Ns builtinsNs mb) (bb : ∀ y : Str, y ≠ "__name__" → mb y = bootBuiltins y) (nl : st.heap.NoLimit) (gn : st.gens = #[])
    (ha : st.heap.get? a = some { cls := .type "list", data := .seq vs.toArray }) (hi : IntsAre vs ns) (hl : ns.length ≤ sizeLine) (room : Room k callerA)
    (F : ∀ base : Heap, K.In base → base.Ns mainGlobals mg → FnG P w K mg base k fa fd [x] sp) (bind1 : ∀ (s : Shared) (u : Value), BindsTo s fd ⟨[u], []⟩ [(x, u)])
    (want : ∀ H : Hp, SqL K H a (ns.map V.int) → sp [.ref a] H (fun v _ => v = .bl true) fun _ _ _ => False) :
    codeAny (model P w) callerA (.call (.ref fa) ⟨[.ref a], []⟩) (fun r s' => r = .ok (.ret (.bool true)) ∧ OldK st.heap s'.heap ∧ s'.os = st.os ∧ AllBare s'.gens) st := by
  have rel : Vals (ns.map V.int) vs := vals_ints hi
  have len : (ns.map V.int).length ≤ sizeLine := by rw [List.length_map]; exact hl
  generalize hH : scriptHp K a vs ns = H
  have sm : ∀ {b u}, H b = some u → b = a ∧ K.lookup a = none ∧ u = .frz { cls := .type "list", data := .seq vs.toArray } (.lst (ns.map V.int)) := fun {b u} e => by
    rw [← hH] at e
    exact scriptHp_some e
  have ok : HOk P w H st.heap := fun b u e => by
    obtain ⟨rfl, _, rfl⟩ := sm e
    exact ⟨ha, len, vs, _, rel, ha⟩
  have sq : SqL K H a (ns.map V.int) := by
    cases lk : K.lookup a with
    | none => exact Or.inl (Or.inr ⟨_, by rw [← hH]; exact if_pos ⟨rfl, lk⟩⟩)
    | some o =>
      have e := (KX a o lk).symm.trans ha
      cases e
      exact Or.inr ⟨_, vs.toArray, _, lk, rfl, rfl, rfl, by rw [List.size_toArray, ← rel.length]; exact len, by simpa using rel⟩
  have hid : ∀ {b o}, st.heap.get? b = some o → H b = none → (hidT st.heap H).get? b = some o := fun e n => hidT_get e n
  have free : ∀ {b : Addr} {m}, st.heap.Ns b m → H b = none := fun {b m} hn => by
    cases e : H b with
    | none => rfl
    | some u =>
      obtain ⟨rfl, _, _⟩ := sm e
      obtain ⟨o, es, ep, e1, e2, _⟩ := hn
      have z := ha.symm.trans e1
      cases z
      cases e2
  have ns1 : ∀ {b : Addr} {m}, st.heap.Ns b m → (hidT st.heap H).Ns b m := fun {b m} hn => by
    have fr := free hn
    obtain ⟨o, es, ep, e1, e2⟩ := hn
    exact ⟨o, es, ep, hid e1 fr, e2⟩
  have inB : K.In (hidT st.heap H) := fun b o e => hid (KX b o e) (by
    cases z : H b with
    | none => rfl
    | some u =>
      obtain ⟨rfl, z2, _⟩ := sm z
      rw [z2] at e
      cases e)
  have md : Mod K mg (hidT st.heap H) := ⟨inB, ns1 gl, ⟨mb, ns1 bl, bb⟩, let ⟨mc, c1, c2⟩ := nl; ⟨mc, ns1 c1, c2⟩⟩
  have env : Env0 P w K mg (hidT st.heap H) callerA [] st H := ⟨rfl, md, fun _ _ e => of_hidT e, Nat.le_of_eq (hidT_size _ _), trivial, fun b z => absurd (show b ∈ ([] : List Addr) from z) (by simp), ok, .of_eq gn⟩
  refine codeAny_mono ((F _ inB (ns1 gl)).run callerA [] st H ⟨[.ref a], []⟩ [.ref a] [.ref a] _ _ room rfl env (bind1 st (.ref a)) (.cons rfl .nil) (want H sq)) fun r s' h => ?_
  cases r with
  | error z => exact False.elim h
  | ok fl =>
    cases fl with
    | next => exact False.elim h
    | brk => exact False.elim h
    | cont => exact False.elim h
    | ret u =>
      obtain ⟨v, H', os, bare, un, ok', ru, qv⟩ := h
      cases (show v = .bl true from qv)
      cases (show u = Value.bool true from ru)
      refine ⟨rfl, OldK.of_keep ?_, os, bare⟩
      intro b o e
      cases z : H b with
      | none => exact un.keep b o e z (by intro y; exact absurd (show b ∈ ([] : List Addr) from y) (by simp)) (by simp)
      | some t =>
        obtain ⟨rfl, _, rfl⟩ := sm z
        have e2 := (ok' _ _ (un.frzs _ _ _ z)).1
        have e3 := ha.symm.trans e
        cases e3
        exact e2
end
/-- a law whose def is a PromG -/
theorem walk_ofG {l : PySem.W.OpenLaw} {n k : Nat} {q : Program} {loose : List Str} {XP : (Str → Option Value) → Heap → Prop} {YP : World → Heap → Prop} {d : DefRec} {x : Str}
    (hn : l.most = some n) (hn2 : n ≤ sizeLine) (hdf : d.params.defaults = []) (room : Room k callerA)
    (F : ∀ (w : World) (mg : Str → Option Value) (fa : Addr) (h : Heap), YP w h → h.Ns mainGlobals mg → mg d.name = some (.ref fa) →
      ∃ (K : PySem.W.Frag) (fd : FuncData) (sp : Sp), K.In h ∧ (∀ (s : Shared) (u : Value), BindsTo s fd ⟨[u], []⟩ [(x, u)]) ∧
        (∀ (H : Hp) (a : Addr) (ns : List Int), ns.length ≤ n → (∀ z ∈ ns, Builtin.Int.intBits z ≤ 1048576) → SqL K H a (ns.map V.int) → sp [.ref a] H (fun v _ => v = .bl true) fun _ _ _ => False) ∧
        ∀ base : Heap, K.In base → base.Ns mainGlobals mg → FnG l.prog w K mg base k fa fd [x] sp) :
    PySem.W.WalkO q loose XP YP l.row.toRowW d [] (fun f vs => PySem.call f vs) := by
  refine Att.attach_callB hn hdf fun w sA sB mg mb fa o pm cd doc a vs ns G Y ho hd hcd hmg hobj hints hlen hbits hg => ?_
  obtain ⟨K, fd, sp, KX, b1, want, hF⟩ := F w mg fa _ Y G.T.g hmg
  exact law_callG KX G.T.g G.T.b G.T.builtins G.T.nolimit hg hobj hints (Nat.le_trans hlen hn2) room hF b1 (fun H hS => want H a ns hlen hbits hS)
end Sz
namespace Sz
/-! ### powers -/
theorem pow_pos {b : Int} (hb : 1 ≤ b) : ∀ j : Nat, 1 ≤ b ^ j
  | 0 => by rw [Int.pow_zero]; exact Int.le_refl 1
  | j + 1 => by
    rw [Int.pow_succ]
    have ih := pow_pos hb j
    have h := Int.mul_le_mul ih hb (by omega) (by omega)
    omega
theorem pow_one (b : Int) : b ^ (0 + 1) = b := by rw [Int.pow_succ, Int.pow_zero, Int.one_mul]
theorem pow_step {b : Int} (hb : 1 ≤ b) (j : Nat) : b ^ j ≤ b ^ (j + 1) := by
  rw [Int.pow_succ]
  have h := Int.mul_le_mul_of_nonneg_left hb (show 0 ≤ b ^ j by have := pow_pos hb j; omega)
  omega
theorem pow_mono {b : Int} (hb : 1 ≤ b) {i : Nat} : ∀ {j : Nat}, i ≤ j → b ^ i ≤ b ^ j
  | 0, h => by
    have e : i = 0 := by omega
    rw [e]
    exact Int.le_refl _
  | j + 1, h => by
    by_cases e : i = j + 1
    · rw [e]
      exact Int.le_refl _
    · exact Int.le_trans (pow_mono hb (j := j) (by omega)) (pow_step hb j)
theorem pow_lt {b : Int} (hb : 2 ≤ b) (j : Nat) : b ^ j < b ^ (j + 1) := by
  rw [Int.pow_succ]
  have h1 := pow_pos (show 1 ≤ b by omega) j
  have h := Int.mul_le_mul_of_nonneg_left hb (show 0 ≤ b ^ j by omega)
  omega
/-- an integer is below the power with its own number -/
theorem lt_pow {b : Int} (hb : 2 ≤ b) : ∀ j : Nat, (j : Int) < b ^ j
  | 0 => by rw [Int.pow_zero]; decide
  | j + 1 => by
    have h1 := lt_pow hb j
    have h2 := pow_lt hb j
    omega
/-! ### figures -/
/-- k is the number of figures of n in the base b -/
def IsF (b n k : Int) : Prop := ∃ j : Nat, k = (j : Int) + 1 ∧ n < b ^ (j + 1) ∧ (j = 0 ∨ b ^ j ≤ n)
theorem isF_le {b n m k l : Int} (hb : 2 ≤ b) (h : n ≤ m) (hk : IsF b n k) (hl : IsF b m l) : k ≤ l := by
  obtain ⟨i, rfl, h1, h2⟩ := hk
  obtain ⟨j, rfl, h3, h4⟩ := hl
  by_cases c : i ≤ j
  · omega
  · rcases h2 with h2 | h2
    · omega
    · have h5 := pow_mono (show 1 ≤ b by omega) (show j + 1 ≤ i by omega)
      omega
theorem isF_eq {b n k l : Int} (hb : 2 ≤ b) (hk : IsF b n k) (hl : IsF b n l) : k = l :=
  Int.le_antisymm (isF_le hb (Int.le_refl n) hk hl) (isF_le hb (Int.le_refl n) hl hk)
theorem isF_pos {b n k : Int} (h : IsF b n k) : 1 ≤ k := by
  obtain ⟨j, rfl, _⟩ := h
  omega
/-- there is such a number -/
theorem isF_ex {b : Int} (hb : 2 ≤ b) (n : Int) : ∃ k, IsF b n k := by
  have key : ∀ m : Nat, ∀ n : Int, n < b ^ (m + 1) → ∃ k, IsF b n k := by
    intro m
    induction m with
    | zero => exact fun n h => ⟨1, 0, rfl, h, .inl rfl⟩
    | succ m ih =>
      intro n h
      by_cases c : n < b ^ (m + 1)
      · exact ih n c
      · exact ⟨(m + 1 : Nat) + 1, m + 1, rfl, h, .inr (by omega)⟩
  refine key n.toNat n ?_
  have h1 := lt_pow hb (n.toNat + 1)
  omega
/-- a bound for the figures -/
theorem isF_bound {b n k : Int} (hb : 2 ≤ b) (m : Nat) (hn : n < 2 ^ m) (h : IsF b n k) : k ≤ (m : Int) + 1 := by
  obtain ⟨j, rfl, h1, h2⟩ := h
  rcases h2 with h2 | h2
  · omega
  · by_cases c : j ≤ m
    · omega
    · exfalso
      have h3 : (2 : Int) ^ j ≤ b ^ j := by
        clear h1 h2 c
        induction j with
        | zero => rw [Int.pow_zero, Int.pow_zero]; exact Int.le_refl 1
        | succ j ih =>
          rw [Int.pow_succ, Int.pow_succ]
          exact Int.mul_le_mul ih hb (by decide) (by have := pow_pos (show 1 ≤ b by omega) j; omega)
      have h4 := pow_mono (show (1 : Int) ≤ 2 by decide) (show m ≤ j by omega)
      omega
end Sz
namespace Sz
/-! ### totals that count their own figures -/
theorem isF_upper {b x g : Int} (hb : 2 ≤ b) {m : Nat} (h : x < b ^ (m + 1)) (hg : IsF b x g) : g ≤ (m : Int) + 1 := by
  obtain ⟨i, rfl, h1, h2⟩ := hg
  by_cases c : i ≤ m
  · omega
  · rcases h2 with h2 | h2
    · omega
    · have := pow_mono (show 1 ≤ b by omega) (show m + 1 ≤ i by omega)
      omega
/-- adding its figures to a number makes one figure more at most -/
theorem fig_grow {b n f g : Int} (hb : 2 ≤ b) (hn : 0 ≤ n) (hf : IsF b n f) (hg : IsF b (n + f) g) : g = f ∨ g = f + 1 := by
  have h1 := isF_le hb (show n ≤ n + f by have := isF_pos hf; omega) hf hg
  obtain ⟨j, rfl, h2, h3⟩ := hf
  have h4 := lt_pow hb (j + 1)
  have h5 : b ^ (j + 1 + 1) = b ^ (j + 1) * b := Int.pow_succ b (j + 1)
  have h6 := Int.mul_le_mul_of_nonneg_left hb (show 0 ≤ b ^ (j + 1) by omega)
  have h7 := isF_upper (m := j + 1) hb (show n + ((j : Int) + 1) < b ^ (j + 1 + 1) by omega) hg
  omega
/-- and then this is the number of figures -/
theorem fig_next {b n f : Int} (hb : 2 ≤ b) (hn : 0 ≤ n) (hf : IsF b n f) (hg : IsF b (n + f) (f + 1)) : IsF b (n + f + 1) (f + 1) := by
  obtain ⟨j, rfl, h2, h3⟩ := hf
  obtain ⟨i, e, h4, h5⟩ := hg
  have e2 : i = j + 1 := by omega
  subst e2
  have h6 := lt_pow hb (j + 1)
  have h7 : b ^ (j + 1 + 1) = b ^ (j + 1) * b := Int.pow_succ b (j + 1)
  have h8 := Int.mul_le_mul_of_nonneg_left hb (show 0 ≤ b ^ (j + 1) by omega)
  refine ⟨j + 1, by omega, by omega, Or.inr ?_⟩
  rcases h5 with h5 | h5
  · omega
  · omega
/-- s is a total of N -/
def Tot (b N s : Int) : Prop := IsF b s (s - N)
structure IsTot (b N s : Int) : Prop where
  tot : Tot b N s
  least : ∀ t, Tot b N t → s ≤ t
theorem isTot_pos {b N s : Int} (h : Tot b N s) : N + 1 ≤ s := by
  have := isF_pos h
  omega
theorem isTot_first {b n f : Int} (hb : 2 ≤ b) (hf : IsF b n f) (hg : IsF b (n + f) f) : IsTot b n (n + f) := by
  refine ⟨?_, fun t ht => ?_⟩
  · have e : n + f - n = f := by omega
    show IsF b (n + f) (n + f - n)
    rw [e]
    exact hg
  · have h1 := isTot_pos ht
    have h2 := isF_le hb (show n ≤ t by omega) hf ht
    omega
theorem isTot_second {b n f : Int} (hb : 2 ≤ b) (hn : 0 ≤ n) (hf : IsF b n f) (hg : IsF b (n + f) (f + 1)) : IsTot b n (n + f + 1) := by
  refine ⟨?_, fun t ht => ?_⟩
  · have e : n + f + 1 - n = f + 1 := by omega
    show IsF b (n + f + 1) (n + f + 1 - n)
    rw [e]
    exact fig_next hb hn hf hg
  · have h1 := isTot_pos ht
    have h2 := isF_le hb (show n ≤ t by omega) hf ht
    by_cases c : t = n + f
    · subst c
      have ht2 : IsF b (n + f) (n + f - n) := ht
      have e : n + f - n = f := by omega
      rw [e] at ht2
      have := isF_eq hb ht2 hg
      omega
    · omega
theorem isTot_eq {b N s t : Int} (h : IsTot b N s) (h2 : IsTot b N t) : s = t := Int.le_antisymm (h.least t h2.tot) (h2.least s h.tot)
/-- two totals lie beside one another -/
theorem tot_near {b N s t : Int} (hb : 2 ≤ b) (hN : 0 ≤ N) (h : Tot b N s) (h2 : Tot b N t) (hst : s ≤ t) : t ≤ s + 1 := by
  obtain ⟨i, e1, h3, h4⟩ := h
  obtain ⟨j, e2, h5, h6⟩ := h2
  by_cases c : t ≤ s + 1
  · exact c
  · exfalso
    have hj : b ^ j ≤ t := by
      rcases h6 with h6 | h6
      · omega
      · exact h6
    obtain ⟨m, hm⟩ : ∃ m : Nat, j = i + 1 + (m + 1) := ⟨j - i - 2, by omega⟩
    have e3 : b ^ j = b ^ (i + 1) * b ^ (m + 1) := by rw [hm, Int.pow_add]
    have p1 := pow_pos (show 1 ≤ b by omega) (i + 1)
    have p0 : 2 ≤ b ^ (i + 1) := by
      have := pow_mono (show 1 ≤ b by omega) (show 0 + 1 ≤ i + 1 by omega)
      rw [pow_one] at this
      omega
    have l1 := lt_pow hb (m + 1)
    have l2 := Int.mul_le_mul_of_nonneg_left (show ((m + 1 : Nat) : Int) + 1 ≤ b ^ (m + 1) by omega) (show 0 ≤ b ^ (i + 1) by omega)
    have l3 : b ^ (i + 1) * (((m + 1 : Nat) : Int) + 1) = b ^ (i + 1) * ((m + 1 : Nat) : Int) + b ^ (i + 1) := by rw [Int.mul_add, Int.mul_one]
    have l4 := Int.mul_le_mul_of_nonneg_right p0 (show 0 ≤ ((m + 1 : Nat) : Int) by omega)
    omega
/-- whether the next integer is a total, too -/
theorem tot_two {b N s g h : Int} (hb : 2 ≤ b) (ht : Tot b N s) (hg : IsF b s g) (hh : IsF b (s + 1) h) : (h > g ↔ Tot b N (s + 1)) := by
  have e1 : g = s - N := isF_eq hb hg ht
  constructor
  · intro c
    have h1 : h = g + 1 := by
      obtain ⟨j, rfl, h2, h3⟩ := hg
      have h4 := isF_upper (m := j + 1) hb (show s + 1 < b ^ (j + 1 + 1) by have := pow_lt hb (j + 1); omega) hh
      omega
    show IsF b (s + 1) (s + 1 - N)
    have e2 : s + 1 - N = h := by omega
    rw [e2]
    exact hh
  · intro c
    have e2 : h = s + 1 - N := isF_eq hb hh c
    omega
theorem isTot_ex {b n : Int} (hb : 2 ≤ b) (hn : 0 ≤ n) : ∃ s, IsTot b n s := by
  obtain ⟨f, hf⟩ := isF_ex hb n
  obtain ⟨g, hg⟩ := isF_ex hb (n + f)
  rcases fig_grow hb hn hf hg with e | e
  · exact ⟨_, isTot_first hb hf (by rw [← e]; rw [e] at hg ⊢; exact hg)⟩
  · exact ⟨_, isTot_second hb hn hf (by rw [← e]; exact hg)⟩
theorem pow_add_le {b : Int} (hb : 2 ≤ b) (j d : Nat) : b ^ j + d ≤ b ^ (j + d) := by
  induction d with
  | zero => simp
  | succ d ih =>
    have := pow_lt hb (j + d)
    have e : j + (d + 1) = j + d + 1 := by omega
    rw [e]
    omega
theorem two_mul_le {b : Int} (hb : 2 ≤ b) : ∀ j : Nat, 2 * (j : Int) ≤ b ^ j + 1
  | 0 => by simp
  | 1 => by rw [show (1 : Nat) = 0 + 1 from rfl, pow_one]; omega
  | j + 2 => by
    have h1 := two_mul_le hb (j + 1)
    have h2 : b ^ (j + 2) = b ^ (j + 1) * b := Int.pow_succ b (j + 1)
    have h3 := pow_mono (show 1 ≤ b by omega) (show 0 + 1 ≤ j + 1 by omega)
    rw [pow_one] at h3
    have h4 := Int.mul_le_mul_of_nonneg_left hb (show 0 ≤ b ^ (j + 1) by omega)
    omega
/-- the totals found ahead of the number k of figures -/
def totA (N s : Int) (two : Bool) (k : Int) : List Int := if k ≤ s - N then [] else if k = s - N + 1 ∨ two = false then [s] else [s, s + 1]
theorem totA_start {b N s : Int} {two : Bool} (h : IsTot b N s) : totA N s two 1 = [] := if_pos (by have := isTot_pos h.tot; omega)
/-- the one with k figures is a total -/
theorem totA_yes {b N s k : Int} {two : Bool} (hb : 2 ≤ b) (hN : 0 ≤ N) (h : IsTot b N s) (h2 : two = true ↔ Tot b N (s + 1)) (hk : Tot b N (N + k)) : totA N s two (k + 1) = totA N s two k ++ [N + k] := by
  have a := h.least _ hk
  have c := tot_near hb hN h.tot hk a
  by_cases e : N + k = s
  · have e1 : totA N s two k = [] := if_pos (by omega)
    have e2 : totA N s two (k + 1) = [s] := by
      unfold totA
      rw [if_neg (by omega), if_pos (Or.inl (by omega))]
    rw [e1, e2, e]
    rfl
  · have e0 : N + k = s + 1 := by omega
    have ht : two = true := h2.mpr (by rw [← e0]; exact hk)
    have e1 : totA N s two k = [s] := by
      unfold totA
      rw [if_neg (by omega), if_pos (Or.inl (by omega))]
    have e2 : totA N s two (k + 1) = [s, s + 1] := by
      unfold totA
      rw [if_neg (by omega), if_neg (by rw [ht]; simp; omega)]
    rw [e1, e2, e0]
    rfl
theorem totA_no {b N s k : Int} {two : Bool} (h : IsTot b N s) (h2 : two = true ↔ Tot b N (s + 1)) (hk : ¬ Tot b N (N + k)) : totA N s two (k + 1) = totA N s two k := by
  have e : N + k ≠ s := fun z => hk (by rw [z]; exact h.tot)
  unfold totA
  by_cases c : k ≤ s - N
  · rw [if_pos c, if_pos (by omega)]
  · rw [if_neg c, if_neg (by omega)]
    by_cases d : k = s - N + 1
    · have d0 : N + k = s + 1 := by omega
      have ht : two = false := by
        cases q : two with
        | false => rfl
        | true => exact absurd (by rw [d0]; exact h2.mp q) hk
      rw [if_pos (Or.inr ht), if_pos (Or.inr ht)]
    · by_cases ht : two = false
      · rw [if_pos (Or.inr ht), if_pos (Or.inr ht)]
      · rw [if_neg (fun z => z.elim (by omega) ht), if_neg (fun z => z.elim (by omega) ht)]
theorem totA_end {b N s : Int} {j : Nat} {two : Bool} (hb : 2 ≤ b) (hN : 0 ≤ N) (h : IsTot b N s) (h2 : two = true ↔ Tot b N (s + 1)) (hj : ¬ b ^ j ≤ N + ((j : Int) + 1)) : totA N s two ((j : Int) + 1) = if two then [s, s + 1] else [s] := by
  have far : ∀ t, Tot b N t → t - N < (j : Int) + 1 := fun t ht => by
    obtain ⟨i, e, h3, h4⟩ := ht
    by_cases c : i < j
    · omega
    · exfalso
      obtain ⟨d, hd⟩ : ∃ d, i = j + d := ⟨i - j, by omega⟩
      have h5 := pow_add_le hb j d
      rw [← hd] at h5
      rcases h4 with h4 | h4
      · have e0 : j = 0 := by omega
        rw [e0] at hj h5
        have : N + 1 ≤ t := by omega
        have e1 : d = 0 := by omega
        rw [e1] at h5
        simp at hj h5
        omega
      · omega
  have f1 := far s h.tot
  unfold totA
  rw [if_neg (by omega)]
  cases ht : two with
  | false => simp
  | true =>
    have f2 := far _ (h2.mp ht)
    rw [if_neg (by simp; omega)]
    rfl
/-- figures grow no faster than numbers -/
theorem fig_lip {b x y f g : Int} (hb : 2 ≤ b) (h : x ≤ y) (hf : IsF b x f) (hg : IsF b y g) : g ≤ f + (y - x) := by
  obtain ⟨j, rfl, h1, h2⟩ := hf
  obtain ⟨d, hd⟩ : ∃ d : Nat, y = x + d := ⟨(y - x).toNat, by omega⟩
  have h3 := pow_add_le hb (j + 1) d
  have h4 := isF_upper (m := j + d) hb (show y < b ^ (j + d + 1) by rw [show j + d + 1 = j + 1 + d by omega]; omega) hg
  omega
/-- the least total of the next one stands right behind the last total -/
theorem tot_step {b N s : Int} {two : Bool} (hb : 2 ≤ b) (hN : 0 ≤ N) (h : IsTot b N s) (h2 : two = true ↔ Tot b N (s + 1)) : IsTot b (N + 1) (s + (if two then [s, s + 1] else [s]).length) := by
  have last : ∃ e : Int, s + (if two then [s, s + 1] else [s]).length = e + 1 ∧ Tot b N e ∧ ¬ Tot b N (e + 1) := by
    cases q : two with
    | false => exact ⟨s, by simp, h.tot, fun z => by rw [q] at h2; have := h2.mpr z; cases this⟩
    | true =>
      refine ⟨s + 1, by simp; omega, h2.mp q, fun z => ?_⟩
      have := tot_near hb hN h.tot z (by omega)
      omega
  obtain ⟨e, e0, e1, e2⟩ := last
  rw [e0]
  obtain ⟨f, hf⟩ := isF_ex hb (e + 1)
  have f1 := isF_le hb (show e ≤ e + 1 by omega) e1 hf
  have f2 := fig_lip hb (show e ≤ e + 1 by omega) e1 hf
  have f3 : f ≠ e + 1 - N := fun z => e2 (by show IsF b (e + 1) (e + 1 - N); rw [← z]; exact hf)
  refine ⟨?_, fun t ht => ?_⟩
  · show IsF b (e + 1) (e + 1 - (N + 1))
    have : f = e + 1 - (N + 1) := by omega
    rw [← this]
    exact hf
  · by_cases c : e + 1 ≤ t
    · exact c
    · have := fig_lip hb (show t ≤ e by omega) ht e1
      omega
/-- the integer ahead of the least total is one of the length ahead -/
theorem tot_ahead {b N s f : Int} (hb : 2 ≤ b) (h : IsTot b N s) (hf : IsF b (s - 1) f) : s - 1 - f = N - 1 := by
  have h1 := fig_lip hb (show s - 1 ≤ s by omega) hf h.tot
  have h2 := isF_le hb (show s - 1 ≤ s by omega) hf h.tot
  have h3 : f ≠ s - 1 - N := fun z => by
    have := h.least (s - 1) (by show IsF b (s - 1) (s - 1 - N); rw [← z]; exact hf)
    omega
  omega
/-- so many integers from one on -/
def irun (s : Int) (n : Nat) : List Int := (List.range n).map fun (i : Nat) => s + (i : Int)
theorem irun_len (s : Int) (n : Nat) : (irun s n).length = n := by
  unfold irun
  simp
theorem irun_app (s : Int) (n : Nat) (two : Bool) : irun s n ++ (if two then [s + n, s + n + 1] else [s + n]) = irun s (n + (if two then [s, s + 1] else [s]).length) := by
  unfold irun
  cases two with
  | false => simp [List.range_succ]
  | true =>
    simp [List.range_succ]
    omega
/-- a total by its power -/
theorem tot_iff {b N : Int} {j : Nat} (hN : 0 ≤ N) (hj : b ^ j ≤ N + ((j : Int) + 1)) : Tot b N (N + ((j : Int) + 1)) ↔ N + ((j : Int) + 1) < b ^ (j + 1) := by
  have e : N + ((j : Int) + 1) - N = (j : Int) + 1 := by omega
  constructor
  · rintro ⟨i, e1, h1, _⟩
    have : i = j := by omega
    rw [this] at h1
    exact h1
  · intro h
    exact ⟨j, e, h, Or.inr hj⟩
end Sz
namespace Sz
/-! ### what wraps make of lengths -/
open Classical in
/-- how many figures -/
noncomputable def figF (b n : Int) : Int := if h : 2 ≤ b then choose (isF_ex h n) else 0
theorem figF_is {b n : Int} (h : 2 ≤ b) : IsF b n (figF b n) := by
  unfold figF
  rw [dif_pos h]
  exact Classical.choose_spec (isF_ex h n)
theorem figF_eq {b n k : Int} (hb : 2 ≤ b) (h : IsF b n k) : k = figF b n := isF_eq hb h (figF_is hb)
theorem figF_pos {b n : Int} (hb : 2 ≤ b) : 1 ≤ figF b n := isF_pos (figF_is hb)
theorem figF_mono {b n m : Int} (hb : 2 ≤ b) (h : n ≤ m) : figF b n ≤ figF b m := isF_le hb h (figF_is hb) (figF_is hb)
theorem figF_lip {b n m : Int} (hb : 2 ≤ b) (h : n ≤ m) : figF b m ≤ figF b n + (m - n) := fig_lip hb h (figF_is hb) (figF_is hb)
open Classical in
/-- the least total -/
noncomputable def totF (b n : Int) : Int := if h : 2 ≤ b ∧ 0 ≤ n then choose (isTot_ex h.1 h.2) else 0
theorem totF_is {b n : Int} (h : 2 ≤ b) (h2 : 0 ≤ n) : IsTot b n (totF b n) := by
  unfold totF
  rw [dif_pos ⟨h, h2⟩]
  exact Classical.choose_spec (isTot_ex h h2)
theorem totF_eq {b n k : Int} (hb : 2 ≤ b) (hn : 0 ≤ n) (h : IsTot b n k) : k = totF b n := isTot_eq h (totF_is hb hn)
/-- how many parts of a size a length begins -/
def beg (n m : Int) : Int := (n + m - 1) / m
inductive Wr where
  | plus (c : Int)
  | told (c : Int)
  | whole (c : Int)
  | pieces (m c : Int)
  | cut (m c : Int)
  | coded (m c : Int)
  | filled (m : Int)
def Wr.kind : Wr → PySem.Str
  | .plus _ => "plus"
  | .told _ => "told"
  | .whole _ => "whole"
  | .pieces _ _ => "pieces"
  | .cut _ _ => "cut"
  | .coded _ _ => "coded"
  | .filled _ => "filled"
def Wr.nums : Wr → List Int
  | .plus c => [c]
  | .told c => [c]
  | .whole c => [c]
  | .pieces m c => [m, c]
  | .cut m c => [m, c]
  | .coded m c => [m, c]
  | .filled m => [m]
def Wr.rng : Wr → List (Int × Int)
  | .plus _ => [(0, 1000)]
  | .told _ => [(0, 1000)]
  | .whole _ => [(0, 1000)]
  | .pieces _ _ => [(1, 60), (0, 60)]
  | .cut _ _ => [(1, 60), (0, 60)]
  | .coded _ _ => [(1, 60), (1, 120)]
  | .filled _ => [(1, 60)]
def Wr.ok : Wr → Prop
  | .plus c => 0 ≤ c ∧ c ≤ 1000
  | .told c => 0 ≤ c ∧ c ≤ 1000
  | .whole c => 0 ≤ c ∧ c ≤ 1000
  | .pieces m c => 1 ≤ m ∧ m ≤ 60 ∧ 0 ≤ c ∧ c ≤ 60
  | .cut m c => 1 ≤ m ∧ m ≤ 60 ∧ 0 ≤ c ∧ c ≤ 60
  | .coded m c => 1 ≤ m ∧ m ≤ 60 ∧ m ≤ c ∧ c ≤ 120
  | .filled m => 1 ≤ m ∧ m ≤ 60
/-- the size that a wrap makes of a length -/
noncomputable def Wr.gr (b : Int) : Wr → Int → Int
  | .plus c, n => n + c
  | .told c, n => n + c + figF b n
  | .whole c, n => totF b (n + c)
  | .pieces m c, n => n / m * (m + c + figF b m) + (if 0 < n % m then n % m + c + figF b (n % m) else 0) + c + 1
  | .cut m c, n => n + beg n m * c
  | .coded m c, n => beg n m * c
  | .filled m, n => beg n m * m
theorem nums_len {w : Wr} : w.nums.length = w.rng.length := by cases w <;> rfl
theorem nums_small {w : Wr} (h : w.ok) : ∀ x ∈ w.nums, 0 ≤ x ∧ x ≤ 1000 := by
  cases w <;> simp only [Wr.ok] at h <;> simp [Wr.nums] <;> omega
theorem beg_le {n m : Int} (hn : 0 ≤ n) (hm : 1 ≤ m) : beg n m ≤ n ∧ 0 ≤ beg n m := by
  unfold beg
  constructor
  · refine Int.le_of_lt_add_one (Int.ediv_lt_of_lt_mul (by omega) ?_)
    have := Int.mul_le_mul_of_nonneg_left hm (show 0 ≤ n by omega)
    have e : (n + 1) * m = n * m + m := by rw [Int.add_mul, Int.one_mul]
    omega
  · exact Int.ediv_nonneg (by omega) (by omega)
theorem fig_small {b m : Int} (hb : 2 ≤ b) (hm : m ≤ 60) : figF b m ≤ 6 := by
  have h : m < b ^ (5 + 1) := by
    have h1 := pow_pos (show 1 ≤ b by omega) 5
    have h2 : (64 : Int) ≤ b ^ 6 := by
      have : ∀ j : Nat, (2 : Int) ^ j ≤ b ^ j := fun j => by
        induction j with
        | zero => simp
        | succ j ih =>
          rw [Int.pow_succ, Int.pow_succ]
          exact Int.mul_le_mul ih hb (by decide) (by have := pow_pos (show 1 ≤ b by omega) j; omega)
      have := this 6
      omega
    show m < b ^ 6
    omega
  have := isF_upper (m := 5) hb h (figF_is hb)
  omega
theorem figF_le {b n : Int} (hb : 2 ≤ b) (hn : 0 ≤ n) : figF b n ≤ n + 1 := by
  have h1 := figF_lip (b := b) hb hn
  have h2 : figF b 0 ≤ 1 := by
    have := isF_upper (m := 0) hb (show (0 : Int) < b ^ (0 + 1) by rw [pow_one]; omega) (figF_is hb)
    omega
  omega
/-- a size is no less than 0, and not too great -/
theorem gr_le {b : Int} {w : Wr} (hb : 2 ≤ b) (h : w.ok) {n : Int} (hn : 0 ≤ n) : 0 ≤ w.gr b n ∧ w.gr b n ≤ 128 * n + 4096 := by
  cases w with
  | plus c =>
    simp only [Wr.ok] at h
    simp only [Wr.gr]
    omega
  | told c =>
    simp only [Wr.ok] at h
    simp only [Wr.gr]
    have h1 := figF_le (b := b) hb hn
    have h2 := figF_pos (b := b) (n := n) hb
    omega
  | whole c =>
    simp only [Wr.ok] at h
    simp only [Wr.gr]
    have t := totF_is hb (show 0 ≤ n + c by omega)
    have h1 := isTot_pos t.tot
    have f := figF_is (b := b) (n := n + c) hb
    have g := figF_is (b := b) (n := n + c + figF b (n + c)) hb
    have fl := figF_le (b := b) (n := n + c) hb (by omega)
    rcases fig_grow hb (show 0 ≤ n + c by omega) f g with e | e
    · have := t.least _ (isTot_first hb f (by rw [e] at g; exact g)).tot
      omega
    · have := t.least _ (isTot_second hb (show 0 ≤ n + c by omega) f (by rw [← e]; exact g)).tot
      omega
  | pieces m c =>
    simp only [Wr.ok] at h
    simp only [Wr.gr]
    have f1 := fig_small (b := b) (m := m) hb h.2.1
    have f2 := figF_pos (b := b) (n := m) hb
    have q0 := Int.ediv_nonneg hn (show 0 ≤ m by omega)
    have q1 : n / m ≤ n := Int.ediv_le_self _ hn
    have r0 := Int.emod_nonneg n (show m ≠ 0 by omega)
    have r1 := Int.emod_lt_of_pos n (show 0 < m by omega)
    have f3 := fig_small (b := b) (m := n % m) hb (by omega)
    have f4 := figF_pos (b := b) (n := n % m) hb
    have p0 := Int.mul_nonneg q0 (show 0 ≤ m + c + figF b m by omega)
    have p1 := Int.mul_le_mul q1 (show m + c + figF b m ≤ 126 by omega) (by omega) hn
    split <;> omega
  | cut m c =>
    simp only [Wr.ok] at h
    simp only [Wr.gr]
    have q := beg_le hn h.1
    have p0 := Int.mul_nonneg q.2 (show 0 ≤ c by omega)
    have p1 := Int.mul_le_mul q.1 (show c ≤ 60 by omega) (by omega) hn
    omega
  | coded m c =>
    simp only [Wr.ok] at h
    simp only [Wr.gr]
    have q := beg_le hn h.1
    have p0 := Int.mul_nonneg q.2 (show 0 ≤ c by omega)
    have p1 := Int.mul_le_mul q.1 (show c ≤ 120 by omega) (by omega) hn
    omega
  | filled m =>
    simp only [Wr.ok] at h
    simp only [Wr.gr]
    have q := beg_le hn h.1
    have p0 := Int.mul_nonneg q.2 (show 0 ≤ m by omega)
    have p1 := Int.mul_le_mul q.1 (show m ≤ 60 by omega) (by omega) hn
    omega
end Sz
/-! a hook that looks at whatever one wants besides, and the table of ranges -/
namespace Sz
open PySem PySem.Spec PyProof.Rows L2
abbrev AlX : Type := Bool × He.AlT
/-- what an object names, its class's line left out: what the module names is there already -/
def refsX (o : Obj) : List Addr := match o.data with
  | .seq its _ => its.toList.flatMap He.refV
  | .dict es _ => es.toList.flatMap fun e => He.refV e.val
  | .func fd => He.refV fd.code ++ (He.refV fd.defaults ++ (He.refV fd.kwdefaults ++ fd.closure.map (·.2)))
  | .cls cd => [cd.ns]
  | .fields vs => vs.toList.flatMap He.refV
  | .cell (some v) => He.refV v
  | _ => []
def layerX (g : Addr → Option Obj) (as : List Addr) : List Addr := as.flatMap fun a => match g a with
  | some o => refsX o
  | none => []
/-- layer by layer, nothing looked at twice -/
def layersX (g : Addr → Option Obj) : Nat → List Addr → List Addr
  | 0, l => l
  | n + 1, l => l ++ layersX g n (layerX g l)
def asX (g : Addr → Option Obj) (n : Nat) : List Addr := layersX g n [mainGlobals]
def obsX (fb : PySem.W.Frag → Bool) (fa : List He.Fa) (fn : List He.DefD) (ts : List He.Tab) (K : PySem.W.Frag) : AlX := (fb K, He.obsT fa fn ts K)
def valX (fn : List He.DefD) (ts : List He.Tab) (w : World) : AlX := (true, He.valT fn ts w)
def obsXG (n : Nat) (fb : PySem.W.Frag → Bool) (fa : List He.Fa) (fn : List He.DefD) (ts : List He.Tab) (g : Addr → Option Obj) : AlX := obsX fb fa fn ts (He.frG g (asX g n))
def SaysX (fb : PySem.W.Frag → Bool) (fa : List He.Fa) (fn : List He.DefD) (ts : List He.Tab) (w : World) (K : PySem.W.Frag) : Prop := obsX fb fa fn ts K = valX fn ts w
def hookX (n : Nat) (fb : PySem.W.Frag → Bool) (fa : List He.Fa) (fn : List He.DefD) (ts : List He.Tab) : PySem.W.Hook where
  α := AlX
  obs := fun s => obsXG n fb fa fn ts s.heap.get?
  val := fun w => valX fn ts w
  says := fun w h => ∃ K : PySem.W.Frag, K.In h ∧ SaysX fb fa fn ts w K
  of := fun _ _ e => ⟨_, He.frG_in, e⟩
  keeps := fun _ _ _ ⟨K, hK, c⟩ k => ⟨K, PySem.W.Frag.In.keeps hK k, c⟩
theorem obsXG_eq {n : Nat} {fb : PySem.W.Frag → Bool} {fa : List He.Fa} {fn : List He.DefD} {ts : List He.Tab} {g : Addr → Option Obj} {s : Shared} (h : ∀ a, g a = s.heap.get? a) : obsXG n fb fa fn ts g = (hookX n fb fa fn ts).obs s := by
  rw [show g = s.heap.get? from funext h]
  rfl
section
variable {fb : PySem.W.Frag → Bool} {fa : List He.Fa} {fn : List He.DefD} {ts : List He.Tab} {w : World} {K : PySem.W.Frag}
theorem SaysX.t (c : SaysX fb fa fn ts w K) : He.SaysT fa fn ts w K := congrArg (fun z : AlX => z.2) c
theorem SaysX.b (c : SaysX fb fa fn ts w K) : fb K = true := congrArg (fun z : AlX => z.1) c
end
/-! ### the table of ranges: tuples of pairs -/
def pairB (K : PySem.W.Frag) (u : Value) (q : Int × Int) : Bool := match u with
  | .ref a => (match K.lookup a with
    | some ⟨.type c, _, .seq its _, _⟩ => decide (c = "tuple") && (decide (its.size ≤ sizeLine) && He.relAll [.int q.1, .int q.2] its.toList)
    | _ => false)
  | _ => false
def pairsB (K : PySem.W.Frag) : List Value → List (Int × Int) → Bool
  | [], [] => true
  | u :: us, q :: qs => pairB K u q && pairsB K us qs
  | _, _ => false
def rngB (K : PySem.W.Frag) (D : Addr) (kd : Str) (qs : List (Int × Int)) : Bool := match PySem.W.nsIn K D kd with
  | some (some (.ref b)) => (match K.lookup b with
    | some ⟨.type c, _, .seq its _, _⟩ => decide (c = "tuple") && (decide (its.size ≤ sizeLine) && pairsB K its.toList qs)
    | _ => false)
  | _ => false
inductive Pairs (K : PySem.W.Frag) : List V → List (Int × Int) → Prop where
  | nil : Pairs K [] []
  | cons {a : Addr} {xs : List V} {q : Int × Int} {qs : List (Int × Int)} (h : ∀ H, SqT K H a [.int q.1, .int q.2]) (r : Pairs K xs qs) : Pairs K (.ref a :: xs) (q :: qs)
theorem Pairs.len {K : PySem.W.Frag} {xs : List V} {qs : List (Int × Int)} (h : Pairs K xs qs) : xs.length = qs.length := by
  induction h with
  | nil => rfl
  | cons _ _ ih => exact congrArg (· + 1) ih
theorem Pairs.get {K : PySem.W.Frag} {xs : List V} {qs : List (Int × Int)} (h : Pairs K xs qs) : ∀ {i : Nat} {x : V}, xs[i]? = some x → ∃ (a : Addr) (q : Int × Int), x = .ref a ∧ qs[i]? = some q ∧ ∀ H, SqT K H a [.int q.1, .int q.2] := by
  induction h with
  | nil =>
    intro i x e
    simp at e
  | cons h _ ih =>
    intro i x e
    cases i with
    | zero =>
      simp at e
      exact ⟨_, _, e.symm, rfl, h⟩
    | succ i => exact ih (by simpa using e)
theorem pairB_ok {K : PySem.W.Frag} {u : Value} {q : Int × Int} (h : pairB K u q = true) : ∃ a, u = .ref a ∧ ∀ H, SqT K H a [.int q.1, .int q.2] := by
  cases u with
  | ref a =>
    refine ⟨a, rfl, fun H => ?_⟩
    have h : (match K.lookup a with
      | some ⟨.type c, _, .seq its _, _⟩ => decide (c = "tuple") && (decide (its.size ≤ sizeLine) && He.relAll [.int q.1, .int q.2] its.toList)
      | _ => false) = true := h
    cases e : K.lookup a with
    | none =>
      rw [e] at h
      cases h
    | some o =>
      obtain ⟨oc, od, dt, osl⟩ := o
      rw [e] at h
      cases oc with
      | type c =>
        cases dt with
        | seq its n =>
          obtain ⟨h1, h2⟩ := He.ba h
          obtain ⟨h3, h4⟩ := He.ba h2
          exact .inr ⟨_, its, n, e, congrArg Value.type (of_decide_eq_true h1), rfl, of_decide_eq_true h3, He.relAll_ok h4⟩
        | _ => cases h
      | _ => cases dt <;> cases h
  | _ => cases h
theorem pairsB_ok {K : PySem.W.Frag} : ∀ {us : List Value} {qs : List (Int × Int)}, pairsB K us qs = true → ∃ xs, Vals xs us ∧ Pairs K xs qs
  | [], [], _ => ⟨[], .nil, .nil⟩
  | [], _ :: _, h => by cases h
  | _ :: _, [], h => by cases h
  | u :: us, q :: qs, h => by
    obtain ⟨h1, h2⟩ := He.ba (show (pairB K u q && pairsB K us qs) = true from h)
    obtain ⟨a, rfl, ha⟩ := pairB_ok h1
    obtain ⟨xs, r, p⟩ := pairsB_ok h2
    exact ⟨.ref a :: xs, .cons rfl r, .cons ha p⟩
/-- the kind kd has these ranges -/
def Rng (K : PySem.W.Frag) (D : Addr) (kd : Str) (qs : List (Int × Int)) : Prop := ∃ b xs, PySem.W.nsIn K D kd = some (some (.ref b)) ∧ (∀ H, SqT K H b xs) ∧ Pairs K xs qs
theorem rngB_ok {K : PySem.W.Frag} {D : Addr} {kd : Str} {qs : List (Int × Int)} (h : rngB K D kd qs = true) : Rng K D kd qs := by
  unfold rngB at h
  cases e : PySem.W.nsIn K D kd with
  | none =>
    rw [e] at h
    cases h
  | some r =>
    rw [e] at h
    cases r with
    | none => cases h
    | some u =>
      cases u with
      | ref b =>
        have h : (match K.lookup b with
          | some ⟨.type c, _, .seq its _, _⟩ => decide (c = "tuple") && (decide (its.size ≤ sizeLine) && pairsB K its.toList qs)
          | _ => false) = true := h
        cases e2 : K.lookup b with
        | none =>
          rw [e2] at h
          cases h
        | some o =>
          obtain ⟨oc, od, dt, osl⟩ := o
          rw [e2] at h
          cases oc with
          | type c =>
            cases dt with
            | seq its n =>
              obtain ⟨h1, h2⟩ := He.ba h
              obtain ⟨h3, h4⟩ := He.ba h2
              obtain ⟨xs, r, p⟩ := pairsB_ok h4
              exact ⟨b, xs, e, fun H => .inr ⟨_, its, n, e2, congrArg Value.type (of_decide_eq_true h1), rfl, of_decide_eq_true h3, r⟩, p⟩
            | _ => cases h
          | _ => cases dt <;> cases h
      | _ => cases h
/-- RANGES[kind] -/
theorem ix_kd {X : Cx} {d : Addr} {es : Array DictEntry} {n : Nat} (D : KDict X.K X.w d es n) : True := trivial
end Sz
/-! own classes: methods and makers by their promises -/
namespace Sz
open PySem PySem.Spec PyProof.Rows L2
/-- a method's def by its class -/
def DefAtM (K : PySem.W.Frag) (C m q : Str) (st : Stmt) : Prop := ∃ fd, FunD K m q (defArgs st) (defBody st) (defScope st) [] [] (He.ma K (He.ga K C) m) fd
/-- the method m of C keeps the promise sp (the receiver stands first) -/
structure PromM (P : Program) (w : World) (K : PySem.W.Frag) (mg : Str → Option Value) (base : Heap) (CX : CXT) (k : Nat) (C m : Str) (ps : List Str) (sp : Sp) : Prop where
  cl : Cls K (He.ga K C)
  me : Meth K (He.ga K C) m (He.ma K (He.ga K C) m)
  ex : ∃ fd, FnOk P w K mg base CX k (He.ma K (He.ga K C) m) fd ps sp ∧ Binds K fd ps []
/-- C(..) keeps the promise sp: what is told of the values handed in -/
structure PromC (P : Program) (w : World) (K : PySem.W.Frag) (mg : Str → Option Value) (base : Heap) (CX : CXT) (k : Nat) (C : Str) (sp : Sp) : Prop where
  make : Mk K (He.ga K C) (He.ma K (He.ga K C) "__init__")
  mg_ : mg C = some (.ref (He.ga K C))
  ex : ∃ sp0, FnR P w K mg base CX k (He.ma K (He.ga K C) "__init__") sp0 ∧ ∀ vs H Q E, sp vs H Q E → ∀ x dx, H x = none → H dx = none → dx ≠ x →
    sp0 (V.ref x :: vs) (upd (upd H dx (.own x)) x (.ins (He.ga K C) dx [])) (fun v H2 => v = .non ∧ Q (.ref x) H2) E
section
variable {P : Program} {w : World} {K : PySem.W.Frag} {mg : Str → Option Value} {base : Heap}
theorem PromM.of {C m q : Str} {st : Stmt} {ps N : List Str} {sp : Sp} {k : Nat} (cl : Cls K (He.ga K C)) (me : Meth K (He.ga K C) m (He.ma K (He.ga K C) m)) (D : DefAtM K C m q st) (S : FnScope N ps (defScope st)) (len : ∀ vs H Q E, sp vs H Q E → vs.length = ps.length)
    (hb : ∀ (kV doc pm : Value) (an : Option Addr) (cdv ct : Value) (us : List Value), us.length = ps.length → bindArgs (PySem.W.fnOf m q (defArgs st) (defBody st) (defScope st) .none kV doc pm an cdv ct) ⟨us, []⟩ = pure (ps.zip us))
    (hbody : ∀ (f : Addr) (cdv : Value) (A : Around) (outer : List Env) (s : Shared) (H : Hp) (vs : List V) (Q : VK) (E : XK), Room k (A.deeper (envOfC q (defScope st) s.heap.objs.size f cdv)) → sp vs H Q E →
      ∃ t, PSs (cxOf CX0 P w K mg base N q (defScope st) f cdv A outer s H E).nox (defBody st) t ∧ t { nx := fun _ H' => Q .non H', rt := Q } (start N vs) H) :
    PromM P w K mg base CX0 (k + 1) C m ps sp := by
  obtain ⟨fd, F⟩ := D
  refine ⟨cl, me, fd, F.ok S len (fun cdv A outer s H vs Q E hr hs => ?_), F.bindsN hb⟩
  obtain ⟨t, h1, h2⟩ := hbody _ cdv A outer s H vs Q E hr hs
  exact ⟨t, h1.nox, h2⟩
/-- a class whose __init__ takes (self, one, *rest) -/
theorem PromC.star {C q p0 p1 pv : Str} {st : Stmt} {N : List Str} {sp sp0 : Sp} {k : Nat} (mk : Mk K (He.ga K C) (He.ma K (He.ga K C) "__init__")) (hm : mg C = some (.ref (He.ga K C))) (D : DefAtM K C "__init__" q st) (S : FnScope N [p0, p1, pv] (defScope st))
    (h0 : ∀ (kV doc pm : Value) (an : Option Addr) (cdv ct a b : Value), bindArgs (PySem.W.fnOf "__init__" q (defArgs st) (defBody st) (defScope st) .none kV doc pm an cdv ct) ⟨[a, b], []⟩ = (newTuple [] >>= fun t => pure [(p0, a), (p1, b), (pv, t)]))
    (h1 : ∀ (kV doc pm : Value) (an : Option Addr) (cdv ct a b r : Value) (rs : List Value), bindArgs (PySem.W.fnOf "__init__" q (defArgs st) (defBody st) (defScope st) .none kV doc pm an cdv ct) ⟨a :: b :: r :: rs, []⟩ = (newTuple (r :: rs) >>= fun t => pure [(p0, a), (p1, b), (pv, t)]))
    (hbody : ∀ (f : Addr) (cdv : Value) (A : Around) (outer : List Env) (s : Shared) (H : Hp) (vs : List V) (Q : VK) (E : XK), Room k (A.deeper (envOfC q (defScope st) s.heap.objs.size f cdv)) → sp0 vs H Q E →
      ∃ t, PSs (cxOf CX0 P w K mg base N q (defScope st) f cdv A outer s H E).nox (defBody st) t ∧ t { nx := fun _ H' => Q .non H', rt := Q } (start N vs) H)
    (hsp : ∀ vs H Q E, sp vs H Q E → ∃ v rest, vs = v :: rest ∧ rest.length ≤ sizeLine ∧ ∀ x dx p, H x = none → H dx = none → dx ≠ x → p ≠ x → p ≠ dx → H p = none →
      sp0 [.ref x, v, .ref p] (upd (upd (upd H dx (.own x)) x (.ins (He.ga K C) dx [])) p (.tup rest)) (fun u H2 => u = .non ∧ Q (.ref x) H2) E) :
    PromC P w K mg base CX0 (k + 1) C sp := by
  obtain ⟨fd, F⟩ := D
  obtain ⟨oc, od, dV, kV, doc, pm, an, cdv, ct, osl, rfl, lk, hcd, hD, hK⟩ := F.ex
  rcases hD with ⟨_, rfl⟩ | ⟨e, _⟩
  · refine ⟨mk, hm, _, StX.fn_star (ps := [p0, p1]) (pv := pv) (sp := sp0) lk hcd S StX.cxUp_none (StX.bind_star2 (B := fun us => bindArgs _ ⟨us, []⟩) (fun a b => h0 kV doc pm an cdv ct a b) fun a b r rs => h1 kV doc pm an cdv ct a b r rs) (fun A outer s H vs Q E hr hs => ?_), fun vs H Q E hs x dx hx hdx ne => ?_⟩
    · obtain ⟨t, h1, h2⟩ := hbody _ cdv A outer s H vs Q E hr hs
      exact ⟨t, h1.nox, h2⟩
    · obtain ⟨v, rest, rfl, hl, hq⟩ := hsp vs H Q E hs
      refine ⟨[.ref x, v], rest, rfl, rfl, hl, fun p hp => ?_⟩
      have nx : p ≠ x := fun z => by rw [z, upd_same] at hp; cases hp
      rw [upd_ne nx] at hp
      have nd : p ≠ dx := fun z => by rw [z, upd_same] at hp; cases hp
      rw [upd_ne nd] at hp
      exact hq x dx p hx hdx ne nx nd hp
  · exact absurd rfl e
end
section
variable {X : Cx} {CX : CXT} {k : Nat} {x C m : Str} {ps : List Str} {sp : Sp} {E : XK} {e o : Expr} {es : List Expr} {ta : TE} {t : TA} {p pos apos : Pos}
theorem pe_methP {pl : Sem Bool} (G : PromM X.prog X.w X.K X.mg X.base CX k C m ps sp) (hr : Room k X.A) (hx : Passes CX X E) (he : PE X o ta) (ha : PA X (e :: es) t)
    (hst : starEach (e :: es) X.env = (false, eval e X.env) :: starEach es X.env := by rfl) (hpl : (backTo pos (starEach es X.env)).any (·.1) = false := by rfl)
    (ht : eval (.Call (.Attribute o m apos) (e :: es) [] pos) X.env = (do
      let ov ← eval o X.env
      standAt apos.atName
      let (f, first) ← holding [ov] (getMethod ov m pl)
      callWith pos f first (backTo pos (starEach (e :: es) X.env)) (backToKw pos (keywordEach [] X.env))) := by rfl) : PE X (.Call (.Attribute o m apos) (e :: es) [] pos) (tMeth (He.ga X.K C) m sp [] E ta t) := by
  obtain ⟨fd, F, b⟩ := G.ex
  exact pe_meth he G.cl G.me F hr b .nil hx ha hst hpl ht
theorem pe_methP0 {pl : Sem Bool} (G : PromM X.prog X.w X.K X.mg X.base CX k C m ps sp) (hr : Room k X.A) (hx : Passes CX X E) (he : PE X o ta)
    (ht : eval (.Call (.Attribute o m apos) [] [] pos) X.env = (do
      let ov ← eval o X.env
      standAt apos.atName
      let (f, first) ← holding [ov] (getMethod ov m pl)
      callWith pos f first (backTo pos (starEach [] X.env)) (backToKw pos (keywordEach [] X.env))) := by rfl) : PE X (.Call (.Attribute o m apos) [] [] pos) (tMeth (He.ga X.K C) m sp [] E ta tNil) := by
  obtain ⟨fd, F, b⟩ := G.ex
  exact pe_meth0 he G.cl G.me F hr b .nil hx ht
/-- C(e, ..) by what is promised of it -/
def tNew (sp : Sp) (E : XK) (t : TA) : TE := fun σ H Q => t σ H fun vs H1 => sp vs H1 Q E
theorem pe_newP (G : PromC X.prog X.w X.K X.mg X.base CX k x sp) (hr : Room (k + 1) X.A) (hg : Gl X x) (hx : Passes CX X E) (ha : PA X (e :: es) t)
    (hdb : (x == ("__debug__" : Str)) = false := by decide) (he : starEach (e :: es) X.env = (false, eval e X.env) :: starEach es X.env := by rfl) (hpl : (backTo pos (starEach es X.env)).any (·.1) = false := by rfl) :
    PE X (.Call (.Name x p) (e :: es) [] pos) (tNew sp E t) := by
  obtain ⟨sp0, F, hs⟩ := G.ex
  refine ⟨fun pins s σ H Q I h => wpAny_Call_Name_kw (ld_glob I hg G.mg_ (PySem.W.callWith_K (h₀ := X.base) I.ok.mod.kin G.make.kp (thn (ha.run pos pins s σ H _ I h) fun us s1 ⟨vs, H1, I1, r, q⟩ => ⟨I1.kIn, ?_⟩) he hpl) hdb)⟩
  exact StX.run_makeR G.make F hr hx I1 r fun a dx h1 h2 h3 => hs vs H1 Q E q a dx h1 h2 h3
/-- C(e, .., *y) -/
theorem pe_newS (G : PromC X.prog X.w X.K X.mg X.base CX k x sp) (hr : Room (k + 1) X.A) (hg : Gl X x) (hx : Passes CX X E) (ha : PA X (e :: es) t)
    (hdb : (x == ("__debug__" : Str)) = false := by decide) (he : starEach (e :: es) X.env = (false, eval e X.env) :: starEach es X.env := by rfl) (hst : (backTo pos (starEach es X.env)).any (·.1) = true := by rfl) :
    PE X (.Call (.Name x p) (e :: es) [] pos) (tNew sp E t) := by
  obtain ⟨sp0, F, hs⟩ := G.ex
  refine ⟨fun pins s σ H Q I h => wpAny_Call_Name_kw (ld_glob I hg G.mg_ (PySem.W.callWith_S2 (h₀ := X.base) I.ok.mod.kin G.make.kp (thn (ha.run pos pins s σ H _ I h) fun us s1 ⟨vs, H1, I1, r, q⟩ => ⟨I1.kIn, ?_⟩) he hst) hdb)⟩
  exact StX.run_makeR G.make F hr hx I1 r fun a dx h1 h2 h3 => hs vs H1 Q E q a dx h1 h2 h3
end
/-- s[i], s a list or a tuple -/
theorem ix_any {X : Cx} : IxR X (fun x y H Q => rIxL X.K x y H Q ∨ rIxT X.K x y H Q) := by
  intro value slice pins s σ H x y v u Q I rx ry h hs
  rcases h with h | h
  · exact ix_list value slice pins s σ H x y v u Q I rx ry h hs
  · exact ix_tup value slice pins s σ H x y v u Q I rx ry h hs
theorem pe_gstr {X : Cx} {x : Str} {pos : Pos} {v : Str} (h : ∃ u, X.mg x = some (.str v u)) (hg : Gl X x := by rfl) (hd : (x == ("__debug__" : Str)) = false := by decide) : PE X (.Name x pos) (tC (.str v)) := by
  obtain ⟨u, hm⟩ := h
  exact pe_glob hg hm ⟨_, rfl⟩ hd
/-- what isinstance asks of an own class -/
structure IsiK (K : PySem.W.Frag) (C : Addr) : Prop where
  cl : Cls K C
  ha : PySem.W.findIn K (.ref C) "__class__" = some (some (.builtin "object.__class__"))
  hn : PySem.W.specialIn K (.builtin "object.__class__") "__get__" = some (some (.builtin "getset_descriptor.__get__"))
  htk : PySem.W.takesIn K (.builtin "object.__class__") = some true
  hm : PySem.W.mroIn K C (.type "object") = some true
def isiB (K : PySem.W.Frag) (C : Addr) : Bool := He.eqO (PySem.W.findIn K (.ref C) "__class__") (some (some (.builtin "object.__class__"))) && (He.eqO (PySem.W.specialIn K (.builtin "object.__class__") "__get__") (some (some (.builtin "getset_descriptor.__get__"))) &&
  (decide (PySem.W.takesIn K (.builtin "object.__class__") = some true) && decide (PySem.W.mroIn K C (.type "object") = some true)))
theorem isiB_ok {K : PySem.W.Frag} {C : Addr} (cl : Cls K C) (h : isiB K C = true) : IsiK K C := by
  obtain ⟨h1, h⟩ := He.ba h
  obtain ⟨h2, h⟩ := He.ba h
  obtain ⟨h3, h4⟩ := He.ba h
  exact ⟨cl, He.eqO_ok h1, He.eqO_ok h2, of_decide_eq_true h3, of_decide_eq_true h4⟩
theorem IsiK.ty {K : PySem.W.Frag} {C : Addr} (i : IsiK K C) {H : Hp} {a dx : Addr} {fs : List (Str × V)} (h : H a = some (.ins C dx fs)) : TyX K H (.ref a) (.ref C) := .base (.ins h i.cl i.ha i.hn i.htk i.hm)
theorem kit_self {K : PySem.W.Frag} {t : Value} : PySem.W.kitOne K t t = some true := by
  unfold PySem.W.kitOne
  rw [if_pos (by simp)]
end Sz
/-! enumerate over a tuple (the hand layer has it for lists): by what the tuple's iterator draws -/
namespace Sz
open PySem PySem.Spec PyProof.Rows L2
/-- enumerate(v) where iter(v) begins an object o -/
theorem meets_enum1 {v : Value} {o : Obj} {Hh : Heap → Prop} (B : Begins v o Hh) : Meets (Builtin.«enumerate.__new__» ⟨[.type "enumerate", v], []⟩) (fun _ R s => Hh s.heap ∧ R (.ok (.ret (.ref (s.heap.push o).objs.size)))
    { s with heap := (s.heap.push o).push { cls := .type "enumerate", data := .fields #[.none, .bool false, .ref s.heap.objs.size, rawInt 0, .none, .none] } }) := .of_wp fun prog w A R s h => by
  obtain ⟨hp, g, d, tk, os⟩ := s
  have hsub := sub_enumerate
  have it1 : ∀ {A' : Around} {Ex : Value → Shared → Prop} {Q : Value → Shared → Prop}, Q (.ref hp.objs.size) ⟨hp.push o, g, d, tk, os⟩ → wpAny (model prog w) A' (pyIter v) Q Ex ⟨hp, g, d, tk, os⟩ := fun q => B.iter prog w _ _ ⟨hp, g, d, tk, os⟩ _ h.1 q
  wp_walk using it1
  refine wpAny_stack_any (fun st => wpAny_pure ?_)
  split
  · rename_i c _ _ _ _ _
    cases (c == Value.type "enumerate") <;> (wp_walk using it1; exact ⟨_, rfl, h.2⟩)
  · wp_walk using it1
    exact ⟨_, rfl, h.2⟩
theorem call_enum1 {prog : Program} {w : World} {A : Around} {Ex : Value → Shared → Prop} {s : Shared} {v : Value} {o : Obj} {Hh : Heap → Prop} {Q : Value → Shared → Prop} (B : Begins v o Hh) (h1 : Hh s.heap)
    (k : ∀ h', IsEnum h' (s.heap.objs.size + 1) s.heap.objs.size 0 .none → h'.get? s.heap.objs.size = some o → (∀ b u, s.heap.get? b = some u → h'.get? b = some u) → Q (.ref (s.heap.objs.size + 1)) { s with heap := h' }) :
    wpAny (model prog w) A (call (.type "enumerate") [v]) Q Ex s := by
  refine callType_new F.called_enumerate (by decide) (F.typeCall_enumerate_1 _) (F.newCall_enumerate_1 _) (fun obj => F.args_object_init_2 obj _) F.entry_enumerate_new (meets_enum1 B) ⟨h1, ?_⟩
  have z : (s.heap.push o).objs.size = s.heap.objs.size + 1 := Heap.size_push ..
  have e := Heap.get?_push_size (s.heap.push o) (o := { cls := .type "enumerate", data := .fields #[.none, .bool false, .ref s.heap.objs.size, rawInt 0, .none, .none] }) rfl
  rw [z] at e
  show _ ∧ _
  rw [z]
  exact ⟨⟨_, e, rfl⟩, k _ e (Heap.get?_push_of_some _ (Heap.get?_push_size _ B.free)) fun b u x => Heap.get?_push_of_some _ (Heap.get?_push_of_some _ x)⟩

/-- the tuple at a, each item in a new pair -/
def IteT (K : PySem.W.Frag) (a : Addr) : It where
  go := fun i H => ∃ (xs : List V) (x : V), SqT K H a xs ∧ xs[i]? = some x
  yld := fun i H v H' => ∃ T x, v = .ref T ∧ H T = none ∧ H' = upd H T (.tup [.int (i : Nat), x]) ∧ ∀ xs, SqT K H a xs → xs[i]? = some x
  stop := fun i H => ∃ xs : List V, SqT K H a xs ∧ xs.length ≤ i
section
variable {X : Cx} {pins : List (Addr × Obj)} {σ : L2.St} {H : Hp} {s : Shared} {a e it : Addr} {i : Nat} {old : Value} {its : List Value}
theorem enumT_walks (hd : X.A.handled = none) (he : IsEnum s.heap e it ((i : Nat) : Int) old) (hit : s.heap.IsTupleIter it a i) (hne : e ≠ it) (p : s.heap.IsTuple a its.toArray) :
    WalksT X.prog X.w X.A e [e, it, a] [e, it] its.toArray.size (fun i vals => ∃ t x, its.toArray[i]? = some x ∧ vals = #[.int i t, x]) (fun i h => (∃ old, IsEnum h e it i old) ∧ h.IsTupleIter it a i ∧ h.IsTuple a its.toArray)
      (fun i T h => (∃ x, IsEnumOut h e it ((i : Int) + 1) x T) ∧ (h.IsTupleIter it a (i + 1) ∧ h.IsTuple a its.toArray) ∧ T ≠ e ∧ T ≠ it) := by
  have n1 : a ≠ it := fun z => by
    obtain ⟨o1, q1, c1, _⟩ := p
    obtain ⟨o2, q2, c2, _⟩ := hit
    rw [z, q2] at q1
    cases q1
    exact absurd (c2.symm.trans c1) (by decide)
  have n2 : e ≠ a := fun z => by
    obtain ⟨o1, q1, c1, _⟩ := p
    have he' : s.heap.get? e = _ := he
    rw [z, q1] at he'
    cases he'
    have c1 : Value.type "enumerate" = Value.type "tuple" := c1
    exact absurd c1 (by decide)
  exact WalksT.enumerateD (A := X.A) (Draws.tuple (A := X.A.in1) hd it a n1 its.toArray) e hne (by simp [hne, n2]) (by simp)
end
theorem enumT_done {prog : Program} {w : World} {A : Around} {Ex : Value → Shared → Prop} {s : Shared} {a e it : Addr} {i : Nat} {old : Value} {items : Array Value} {Q : Option Value → Shared → Prop} (hh : A.handled = none) (he : IsEnum s.heap e it ((i : Nat) : Int) old)
    (hit : s.heap.IsTupleIter it a i) (p : s.heap.IsTuple a items) (hx : items[i]? = none) (k : ∀ h', Heap.ExtBut it s.heap h' → Q none { s with heap := h' }) : wpAny (model prog w) A (pyNext (.ref e)) Q Ex s := by
  unfold pyNext
  refine wpAny_bind (wpAny_attempt (wpAny_callSpecial?_slot (name := Str.ofString "__next__") ⟨_, he, rfl⟩ F.slot_enumerate_next (wpAny_call_entry F.slot_enumerate_next ⟨_, he, rfl⟩ F.entry_enumerate_next ?_ (F.args_enumerate_next_1 _))))
  show wpAny _ _ (field (.ref e) 2 >>= _) _ _ s
  refine wpAny_bind (wpAny_field he rfl (x := .ref it) rfl (wpAny_bind (wpAny_nextOf_tuple_end hh hit p hx fun h' x ext ⟨o, ho, hc⟩ => ?_)))
  exact wpAny_bind (wpAny_isInstance (T := "StopIteration") (b := true) ⟨o, ho, hc⟩ isSubtype_stop (wpAny_pure (k _ ext)))
theorem turn_enumT {P : Program} {w : World} {K : PySem.W.Frag} {elts : List Expr} {kk : Nat} {tpos : Pos} (a e it : Addr) :
    Turn P w K (.Tuple elts kk tpos) (IteT K a) [e, it] e (fun i h => (∃ old, IsEnum h e it ((i : Nat) : Int) old) ∧ h.IsTupleIter it a i ∧ e ≠ it) where
  mem := List.mem_cons_self ..
  obj := fun i h st b hb => by
    obtain ⟨⟨old, he⟩, ⟨o, ho, _, hd⟩, _⟩ := st
    rcases List.mem_cons.mp hb with z | z
    · subst z
      exact ⟨_, he, fun v q => nomatch q⟩
    · rw [List.mem_singleton.mp z]
      exact ⟨o, ho, fun v q => by rw [hd] at q; cases q⟩
  keep := fun i h h' ⟨⟨old, he⟩, hi, hne⟩ k => ⟨⟨old, k e (List.mem_cons_self ..) _ he⟩, hi.at fun o q => k it (List.mem_cons_of_mem _ (List.mem_cons_self ..)) o q, hne⟩
  item := by
    intro X hP hw hK hc i pins s σ H E I hf ⟨⟨old, he⟩, hit, hne⟩ ⟨xs, x, hq, hx⟩
    subst hP hw hK
    obtain ⟨its, rv, p, hz⟩ := I.tuple hq
    obtain ⟨u, hu, ru⟩ := rv.get hx
    have p' : s.heap.IsTuple a its.toArray := p
    have W := enumT_walks (X := X) (I.ok.hd hc) he hit hne p'
    have hlt : i < its.toArray.size := by simpa using (List.getElem?_eq_some_iff.mp hu).1
    refine W.item i s _ E hlt ⟨⟨old, he⟩, hit, p'⟩ fun T vals h' tk hv hT isT mid k1 => ⟨_, rfl, ?_⟩
    obtain ⟨t, y, hy, rfl⟩ := hv
    have ey : u = y := by
      have e1 : its.toArray[i]? = some u := by simpa using hu
      exact Option.some.inj (e1.symm.trans hy)
    subst ey
    refine W.go elts kk tpos i T { s with heap := h', toks := tk } _ E mid fun h2 st2 k2 => ?_
    have away := W.apart i T h' mid
    obtain ⟨oT, hoT, cT, nT, dT⟩ := isT
    have hoT2 : h2.get? T = some oT := k2 T oT away hoT
    have new : ObjOk X.prog X.w (upd H T (.tup [.int (i : Nat), x])) h2 T (.tup [.int (i : Nat), x]) := ⟨by show 2 ≤ sizeLine; decide, [.int i t, u], .cons ⟨_, rfl⟩ (.cons ru .nil), ⟨oT, hoT2, cT, nT, dT⟩⟩
    have I1 : Inv X pins σ (upd H T (.tup [.int (i : Nat), x])) { s with heap := h2, toks := tk } := I.turnedNew (ch := [e, it]) (fun b ob hb q => k2 b ob hb (k1 b ob hb q)) hf hT new
    refine ⟨.ref T, _, I1, rfl, ⟨T, x, rfl, I.hok.fresh hT, rfl, fun ys hy => by rw [I.tuple_inj hy hq]; exact hx⟩, ⟨st2.1, st2.2.1, hne⟩, fun b hb => ?_⟩
    have nb : b ≠ T := fun z => away (by rw [← z]; exact hb)
    rw [upd_ne nb]
    exact (hf b hb).1
  done := by
    intro X hP hw hK hc i pins s σ H E I hf ⟨⟨old, he⟩, hit, hne⟩ ⟨xs, hq, hx⟩
    subst hP hw hK
    obtain ⟨its, rv, p, hz⟩ := I.tuple hq
    have p' : s.heap.IsTuple a its.toArray := p
    have hl := rv.length
    obtain ⟨o, ho, cT, nT, dT⟩ := id p'
    obtain ⟨f0, f1, f2, f3, f4, f5⟩ := hf it (List.mem_cons_of_mem _ (List.mem_cons_self ..))
    refine enumT_done (I.ok.hd hc) he hit p' (by simp; omega) fun h' ex => ⟨rfl, I.turned (t' := s.toks) (fun b ob hb q => ex b ob hb q) f0 f1 f3 f4 f5⟩
  self := fun A i s Q E ⟨⟨_, he⟩, _⟩ h => wpAny_pyIter_enum he h
def iEnumT (K : PySem.W.Frag) (ta : TA) : TI := fun σ H R => ta σ H fun vs H1 => ∃ a xs, vs = [.ref a] ∧ SqT K H1 a xs ∧ R (IteT K a) H1
theorem pi_enumT {X : Cx} {e : Expr} {ta : TA} {p pos tpos : Pos} {elts : List Expr} {kk : Nat} (hg : Gl X "enumerate") (hm : X.mg "enumerate" = none) (ha : PA X [e] ta) (hs : starEach [e] X.env = [(false, eval e X.env)] := by rfl) :
    PI X (.Tuple elts kk tpos) (.Call (.Name "enumerate" p) [e] [] pos) (iEnumT X.K ta) := by
  refine ⟨fun pins s σ H R I h => Call_ (ld_blt I hg hm boot_enumerate (PyProof.Rows.callWith_type1 (thn (ha.run pos pins s σ H _ I h) fun us s1 ⟨vs, H1, I1, r1, q1⟩ => ?_) hs rfl))⟩
  obtain ⟨a, xs, rfl, hq, q⟩ := q1
  cases r1 with
  | cons r rr =>
    cases rr
    cases r
    obtain ⟨its, rv, p', hz⟩ := I1.tuple hq
    refine call_enum1 (begins_tuple a its.toArray) (show s1.heap.IsTuple a its.toArray from p') fun h' he hit hk => wpAny_pyIter_enum he ?_
    refine ⟨s1.heap.objs.size + 1, [s1.heap.objs.size + 1, s1.heap.objs.size], _, _, H1, rfl, I1.kept (t' := s1.toks) hk, turn_enumT a _ _, ⟨⟨.none, he⟩, ⟨_, hit, rfl, rfl⟩, Nat.succ_ne_self _⟩, fun b hb => ?_, q⟩
    have hle : s1.heap.objs.size ≤ b := by
      rcases List.mem_cons.mp hb with z | z
      · rw [z]
        exact Nat.le_add_right _ 1
      · rw [List.mem_singleton.mp z]
        exact Nat.le_refl _
    exact I1.fpOk hle (I1.hok.fresh hle)
theorem walk_enumT {K : PySem.W.Frag} {a : Addr} {xs : List V} : Walk (IteT K a) xs.length (fun H => SqT K H a xs) (YPair (fun i => some (.int (i : Nat))) (fun i => xs[i]?)) :=
  ⟨fun i _ hi q => ⟨xs, xs[i], q, by simp [hi]⟩, fun _ q => ⟨xs, q, Nat.le_refl _⟩, fun i H v H' _ q ⟨T, x, h1, h2, h3, h4⟩ => ⟨T, .int (i : Nat), x, h1, h2, h3, rfl, h4 xs q⟩⟩
end Sz
namespace Sz
open PySem PySem.Spec PyProof.Rows L2
/-! ### ranges of integers of any size -/
theorem turn_long {P : Program} {w : World} {K : PySem.W.Frag} {tg : Expr} (it : Addr) (lo : Int) (n : Nat) :
    Turn P w K tg (Itr lo n) [it] it (fun i h => IsLongIter h it (lo + (i : Nat) * 1) ((n : Int) - (i : Nat)) 1) := by
  have fpit : ∀ {X : Cx} {pins : List (Addr × Obj)} {σ : L2.St} {H : Hp} {s : Shared} {h' : Heap} {tk : Nat}, Inv X pins σ H s → FpOk X pins H it → (∀ b o, b ≠ it → s.heap.get? b = some o → h'.get? b = some o) → Inv X pins σ H { s with heap := h', toks := tk } := fun I f k => by
    obtain ⟨g0, g1, _, g3, g4, g5⟩ := f
    exact I.turned k g0 g1 g3 g4 g5
  constructor
  · exact List.mem_singleton_self it
  · intro i h z b hb
    cases List.mem_singleton.mp hb
    refine ⟨_, z, fun v y => ?_⟩
    have y' : Data.fields _ = Data.cell v := y
    cases y'
  · exact fun i h h' z keep => keep it (List.mem_singleton_self it) _ z
  · intro X e1 e2 e3 calm i pins s σ H E I fp z go
    subst e1 e2 e3
    have wk := Walks.longrange (prog := X.prog) (w := X.w) (I.ok.hd calm) it lo 1 n
    refine wk.item i s _ _ go z ?_
    rintro v h' tk ⟨t, rfl⟩ z' kp
    have J := fpit (tk := tk) I (fp it (List.mem_singleton_self it)) fun b o hb e => kp b o (by simpa using hb) e
    refine ⟨_, rfl, go_of (s := { s with heap := h', toks := tk }) (n := "longrange_iterator") z' rfl rfl (by decide) ?_⟩
    exact ⟨.int (lo + i), H, J, ⟨t, by rw [Int.mul_one]⟩, ⟨rfl, rfl⟩, z', fun b hb => (fp b hb).1⟩
  · intro X e1 e2 e3 calm i pins s σ H E I fp z stop
    subst e1 e2 e3
    refine wpAny_pyNext_long_end (I.ok.hd calm) z (by have : n ≤ i := stop; omega) fun h' eb => ⟨rfl, ?_⟩
    exact fpit (tk := s.toks) I (fp it (List.mem_singleton_self it)) eb
  · exact fun A i s Q E z h => wpAny_pyIter_longiter z h
section
variable {X : Cx} {tg : Expr}
theorem range_any {pins : List (Addr × Obj)} {σ : L2.St} {H : Hp} {s : Shared} {R : It → Hp → Prop} {E : Value → Shared → Prop} {lo hi : Int} {t u v : Tok} {tk : Nat} (I : Inv X pins σ H s)
    (q : R (Itr lo (hi - lo).toNat) H) : wpAny (model X.prog X.w) X.A (pyIter (.ref s.heap.objs.size)) (PIE X pins σ tg R) E { s with heap := s.heap.push { cls := .type "range", data := .fields #[.int lo t, .int hi u, .int 1 v] }, toks := tk } := by
  generalize hr : s.heap.push { cls := .type "range", data := .fields #[.int lo t, .int hi u, .int 1 v] } = hp
  have J : Inv X pins σ H { s with heap := hp, toks := tk } := by
    rw [← hr]
    exact I.kept fun b o e => Heap.get?_push_of_some _ e
  have fresh : ∀ b ∈ [hp.objs.size], FpOk X pins H b := fun b hb => by
    cases List.mem_singleton.mp hb
    exact J.fpOk (Nat.le_refl _) (J.hok.fresh (Nat.le_refl _))
  have ir : IsRange hp s.heap.objs.size lo hi 1 t u v := by
    rw [← hr]
    exact IsRange.new ..
  have x0 : lo + ((0 : Nat) : Int) * 1 = lo := by simp
  have n0 : (((hi - lo).toNat : Nat) : Int) - ((0 : Nat) : Int) = Builtin.Range.rangeSize lo hi 1 := by
    rw [rangeSize_one]
    split <;> omega
  cases sm : Builtin.Range.small lo hi 1 with
  | true =>
    refine wpAny_pyIter_range ir sm ?_
    refine ⟨hp.objs.size, [hp.objs.size], _, _, H, rfl, J.kept (t' := tk) fun b o e => Heap.get?_push_of_some _ e, turn_range _ lo (hi - lo).toNat, ?_, fresh, q⟩
    show IsRangeIter _ _ (lo + ((0 : Nat) : Int) * 1) ((((hi - lo).toNat : Nat) : Int) - ((0 : Nat) : Int)) 1
    rw [x0, n0]
    exact Heap.get?_push_size hp rfl
  | false =>
    refine wpAny_pyIter_longrange ir sm ?_
    refine ⟨hp.objs.size, [hp.objs.size], _, _, H, rfl, J.kept (t' := tk) fun b o e => Heap.get?_push_of_some _ e, turn_long _ lo (hi - lo).toNat, ?_, fresh, q⟩
    show IsLongIter _ _ (lo + ((0 : Nat) : Int) * 1) ((((hi - lo).toNat : Nat) : Int) - ((0 : Nat) : Int)) 1
    rw [x0, n0]
    exact Heap.get?_push_size hp rfl
def iRngA (ta : TA) : TI := fun σ H R => ta σ H fun vs H1 => ∃ i j : Int, vs = [.int i, .int j] ∧ R (Itr i (j - i).toNat) H1
theorem pi_range2A {a b : Expr} {ta : TA} {p pos : Pos} (hg : Gl X "range") (hm : X.mg "range" = none) (ha : PA X [a, b] ta) (s1 : starEach [a, b] X.env = [(false, eval a X.env), (false, eval b X.env)] := by rfl) (s2 : starEach [b] X.env = [(false, eval b X.env)] := by rfl) :
    PI X tg (.Call (.Name "range" p) [a, b] [] pos) (iRngA ta) := by
  constructor
  intro pins s σ H R I h
  refine Call_ (ld_blt I hg hm boot_range (PyProof.Rows.callWith_type1 (thn (ha.run pos pins s σ H _ I h) ?_) (by rw [s1, s2]) (by rw [s2]; rfl)))
  rintro us sA ⟨vs, H1, I1, r1, i, j, rfl, q⟩
  obtain ⟨t, t', rfl⟩ := Vals.int2 r1
  exact call_range_2 (range_any I1 q)
end
end Sz
namespace Sz
open PySem PySem.Spec PyProof.Rows L2
/-! ### list(range(a, b)) of integers of any size -/
section
variable {prog : Program} {w : World} {A : Around} {E : Value → Shared → Prop} {s : Shared}
/-- L.extend(range(a, b)), L empty -/
theorem extend_long {R : Result → Shared → Prop} {r : Addr} {a b : Int} {t u v : Tok} {n : Nat} (calm : A.handled = none) (ir : IsRange s.heap r a b 1 t u v) (big : Builtin.Range.small a b 1 = false) (size : Builtin.Range.rangeSize a b 1 = n) (few : n ≤ 2 ^ 24)
    (L : Addr) (out : Value) (c : Nat) (hL : s.heap.get? L = some { cls := .type "list", data := .seq #[] c })
    (goal : ∀ h' tk its c', (∀ x o, x ≠ L → s.heap.get? x = some o → h'.get? x = some o) → h'.get? L = some { cls := .type "list", dict := none, data := .seq its c', slots := #[] } → ItemsOf (fun i z => ∃ y, z = .int (a + i * 1) y) its n →
      R (.ok (.ret out)) { s with heap := h', toks := tk }) :
    wpAny (model prog w) A.in1 (Builtin.List.listExtendWith (.ref L) (.ref r) out) (fun fin s' => match fin with
      | .done f => R (.ok f) s'
      | .again c' => c'.quiet = true ∧ codeAny (model prog w) A c' R s') (fun e s' => R (.error e) s') s := by
  have ne1 : L ≠ r := by
    rintro rfl
    rw [ir] at hL
    simp at hL
  have ne2 : L ≠ s.heap.objs.size := Nat.ne_of_lt (Heap.lt_size hL)
  have wk := (Walks.longrange (prog := prog) (w := w) (A := A.in1) calm s.heap.objs.size a 1 n).toS
  have loop : ∀ (h : Heap) (c1 tk : Nat), IsLongIter h s.heap.objs.size (a + ((0 : Nat) : Int) * 1) ((n : Int) - ((0 : Nat) : Int)) 1 → (∀ x o, x ≠ L → s.heap.get? x = some o → h.get? x = some o) → h.get? L = some { cls := .type "list", data := .seq #[] c1 } →
      codeAny (model prog w) A (.builtin "list.extend.loop" ⟨[.ref L, .ref s.heap.objs.size, out], []⟩) R { s with heap := h, toks := tk } := fun h c1 tk z kp hl => by
    refine codeAny_extend_loopS wk (by rw [sizeLine_eq]; omega) L (fun m => ne2 (List.mem_singleton.mp m)) out n 0 _ #[] c1 rfl (Nat.zero_le _) z hl (ItemsOf.nil _) ?_
    intro s' its c' mv hl' hi
    rw [Moved.eq_with mv]
    refine goal s'.heap s'.toks its c' (fun x o hx e => mv.heap x o (fun m => ?_) (kp x o hx e)) hl' hi
    cases List.mem_cons.mp m with
    | inl q => exact hx q
    | inr q =>
      have q1 := List.mem_singleton.mp q
      rw [q1] at e
      exact absurd (Heap.lt_size e) (Nat.lt_irrefl _)
  unfold Builtin.List.listExtendWith
  refine wpAny_bind (wpAny_typeOf (T := "range") ⟨_, ir, rfl⟩ ?_)
  have f1 : Builtin.List.listSameRef (.ref L) (.ref r) = false := by
    simp [Builtin.List.listSameRef, ne1]
  have f2 : (Value.type "range" == Value.type "list") = false := by decide
  have f3 : (Value.type "range" == Value.type "tuple") = false := by decide
  simp only [f1, f2, f3, Bool.or_false, Bool.false_eq_true, if_false]
  refine wpAny_bind (wpAny_pyIter_longrange ir big (wpAny_bind (wpAny_holding (wpAny_hint_range (n := n) (Heap.get?_push_of_some _ ir) size few ?_))))
  generalize hg : s.heap.push { cls := .type "longrange_iterator", data := .fields #[rawInt a, rawInt (Builtin.Range.rangeSize a b 1), rawInt 1] } = g
  have gi : IsLongIter g s.heap.objs.size (a + ((0 : Nat) : Int) * 1) ((n : Int) - ((0 : Nat) : Int)) 1 := by
    have x0 : a + ((0 : Nat) : Int) * 1 = a := by simp
    have x1 : (n : Int) - ((0 : Nat) : Int) = Builtin.Range.rangeSize a b 1 := by rw [size]; simp
    rw [x0, x1, ← hg]
    exact Heap.get?_push_size _ rfl
  have gk : ∀ x o, s.heap.get? x = some o → g.get? x = some o := fun x o e => by
    rw [← hg]
    exact Heap.get?_push_of_some _ e
  have gL := gk L _ hL
  refine wpAny_ite_split (fun _ => ?_) fun _ => wpAny_pure ⟨plainId_quiet F.plain_extend_loop _, loop _ c _ gi (fun x o _ e => gk x o e) gL⟩
  refine wpAny_bind (wpAny_rule (wpAny_bind ?_))
  show wpAny _ _ (updateSeq L (·.push .none) >>= fun _ => updateSeq L (·.pop)) _ _ _
  refine wpAny_bind (wpAny_updateSeq gL rfl ?_)
  have m1 := Heap.get?_update_self (Obj.mapSeq (·.push Value.none)) gL rfl
  refine wpAny_updateSeq (hz := by seq_fits) m1 rfl (wpAny_pure ⟨plainId_quiet F.plain_extend_loop _, loop _ _ _ ?_ (fun x o hx e => ?_) (Heap.get?_update_self (Obj.mapSeq (·.pop)) m1 rfl)⟩)
  · exact (Heap.get?_update_other _ _ ne2).trans ((Heap.get?_update_other _ _ ne2).trans gi)
  · exact (Heap.get?_update_other _ _ (Ne.symm hx)).trans ((Heap.get?_update_other _ _ (Ne.symm hx)).trans (gk x o e))
theorem call_list_long {Q : Value → Shared → Prop} {r : Addr} {a b : Int} {t u v : Tok} {n : Nat} (calm : A.handled = none) (ir : IsRange s.heap r a b 1 t u v) (big : Builtin.Range.small a b 1 = false) (size : Builtin.Range.rangeSize a b 1 = n) (few : n ≤ 2 ^ 24)
    (goal : ∀ h' tk its c', (∀ x o, s.heap.get? x = some o → h'.get? x = some o) → h'.get? s.heap.objs.size = some { cls := .type "list", dict := none, data := .seq its c', slots := #[] } → ItemsOf (fun i z => ∃ y, z = .int (a + i * 1) y) its n →
      Q (.ref s.heap.objs.size) { s with heap := h', toks := tk }) : wpAny (model prog w) A (call (.type "list") [.ref r]) Q E s := by
  refine callType_codes (Q₁ := fun obj s1 => obj = .ref s.heap.objs.size ∧ s1 = { s with heap := s.heap.push { cls := .type "list", data := .seq #[] } }) F.called_list (F.typeCall_list_1 _) F.entry_list_init (code_list_new _ ⟨rfl, rfl⟩) ?_
  rintro _ _ ⟨rfl, rfl⟩
  generalize hg : s.heap.push { cls := .type "list", data := .seq #[] } = g
  have gk : ∀ x o, s.heap.get? x = some o → g.get? x = some o := fun x o e => by
    rw [← hg]
    exact Heap.get?_push_of_some _ e
  have gL : g.get? s.heap.objs.size = some { cls := .type "list", data := .seq #[] } := by
    rw [← hg]
    exact Heap.get?_push_size _ rfl
  have lt : ∀ x o, s.heap.get? x = some o → x ≠ s.heap.objs.size := fun x o e => Nat.ne_of_lt (Heap.lt_size e)
  generalize hS : s.heap.objs.size = L at gL goal lt
  have nr : r ≠ L := lt r _ ir
  refine ⟨⟨_, gL, rfl⟩, F.args_list_init_2 _ _, ?_⟩
  show wpAny _ _ (do let old ← Builtin.List.listItems (.ref L); Builtin.List.listUpdate (.ref L) (fun _ => #[]); letGo old.toList.reverse; Builtin.List.listExtendWith (.ref L) (.ref r) .none) _ _ _
  unfold Builtin.List.listItems
  refine wpAny_bind (wpAny_bind (wpAny_seqItems gL rfl (wpAny_pure ?_)))
  show wpAny _ _ (updateSeq L (fun _ => #[]) >>= fun _ => letGo (#[] : Array Value).toList.reverse >>= fun _ => Builtin.List.listExtendWith (.ref L) (.ref r) .none) _ _ _
  refine wpAny_bind (wpAny_updateSeq gL rfl (wpAny_bind (wpAny_letGo ?_)))
  have ot : ∀ x o, x ≠ L → g.get? x = some o → (g.update L (Obj.mapSeq (fun _ => (#[] : Array Value)))).get? x = some o := fun x o hx e => (Heap.get?_update_other _ _ (Ne.symm hx)).trans e
  refine extend_long (A := A.in1) calm (ot r _ nr (gk r _ ir)) big size few L .none _ (Heap.get?_update_self (Obj.mapSeq (fun _ => (#[] : Array Value))) gL rfl) fun h' tk its c' kp hl' hi => ?_
  exact ⟨rfl, goal h' tk its c' (fun x o e => kp x o (lt x o e) (ot x o (lt x o e) (gk x o e))) hl' hi⟩
end
section
variable {X : Cx} {e : Expr} {te : L2.St → Hp → (Int → Int → Hp → Prop) → Prop}
def tLstA (te : L2.St → Hp → (Int → Int → Hp → Prop) → Prop) : TE := fun σ H Q => te σ H fun a b H1 => (b - a).toNat ≤ 1000000 ∧ ∀ q, H1 q = none → Q (.ref q) (upd H1 q (.lst (rgV a b)))
/-- list(range(..)) -/
theorem pe_listA {p pos : Pos} (hc : X.calm = true) (hg : Gl X "list") (hm : X.mg "list" = none) (he : PRg X e te) (na : starEach [e] X.env = (false, eval e X.env) :: starEach [] X.env := by rfl) : PE X (.Call (.Name "list" p) [e] [] pos) (tLstA te) := by
  constructor
  intro pins s σ H Q I h
  refine Call_ (ld_blt I hg hm boot_list (PyProof.Rows.callWith_type1 (args_cons (thn (he pins s σ H _ I h) ?_) na) na))
  rintro _ s1 ⟨r, a, b, t, u, v, H1, rfl, ir, J, few, q⟩
  refine args_nil ?_
  have few2 : (b - a).toNat ≤ 2 ^ 24 := Nat.le_trans few (by decide)
  have fin : ∀ h' tk its c', (∀ x o, s1.heap.get? x = some o → h'.get? x = some o) → h'.get? s1.heap.objs.size = some { cls := .type "list", dict := none, data := .seq its c', slots := #[] } → ItemsOf (fun i z => ∃ y, z = .int (a + i * 1) y) its (b - a).toNat →
      EP X pins σ Q (.ref s1.heap.objs.size) { s1 with heap := h', toks := tk } := fun h' tk its c' kp at_ hi => by
    refine ⟨.ref s1.heap.objs.size, upd H1 s1.heap.objs.size (.lst (rgV a b)), J.laid kp (Nat.le_refl _) ?_, rfl, q _ (J.hok.fresh (Nat.le_refl _))⟩
    refine (show ObjOk X.prog X.w _ _ _ (.lst (rgV a b)) from ⟨?_, its.toList, c', vals_rg hi, ?_⟩)
    · rw [rgV_length, sizeLine_eq]
      omega
    · rw [Array.toArray_toList]
      exact at_
  cases sm : Builtin.Range.small a b 1 with
  | true => exact call_list_range (J.ok.hd hc) ir sm (rangeSize_nat a b) few2 fin
  | false => exact call_list_long (J.ok.hd hc) ir sm (rangeSize_nat a b) few2 fin
end
end Sz
/-! x + y by an own __add__ -/
namespace Sz
open PySem PySem.Spec PyProof.Rows L2
/-- what the two classes must have: C its own def, D none, both stand under object alone -/
structure AddK (K : PySem.W.Frag) (C D f : Addr) : Prop where
  ne : C ≠ D
  c1 : ∃ cd, PySem.W.clsIn K C = some cd ∧ cd.mro = [.ref C, .type "object"]
  c2 : ∃ cd, PySem.W.clsIn K D = some cd ∧ cd.mro = [.ref D, .type "object"]
  at_ : PySem.W.findIn K (.ref C) "__add__" = some (some (.ref f))
  fn : PySem.W.isFn K (.ref f) = true
  n1 : PySem.W.findIn K (.ref D) "__add__" = some none
  n2 : PySem.W.findIn K (.ref D) "__radd__" = some none
def mroB (K : PySem.W.Frag) (C : Addr) : Bool := match PySem.W.clsIn K C with
  | some cd => decide (cd.mro = [.ref C, .type "object"])
  | none => false
def addB (K : PySem.W.Frag) (C D : Str) : Bool := decide (He.ga K C ≠ He.ga K D) && (mroB K (He.ga K C) && (mroB K (He.ga K D) && (He.eqO (PySem.W.findIn K (.ref (He.ga K C)) "__add__") (some (some (.ref (He.ma K (He.ga K C) "__add__")))) &&
  (PySem.W.isFn K (.ref (He.ma K (He.ga K C) "__add__")) && (He.eqO (PySem.W.findIn K (.ref (He.ga K D)) "__add__") (some none) && He.eqO (PySem.W.findIn K (.ref (He.ga K D)) "__radd__") (some none))))))
theorem mroB_ok {K : PySem.W.Frag} {C : Addr} (h : mroB K C = true) : ∃ cd, PySem.W.clsIn K C = some cd ∧ cd.mro = [.ref C, .type "object"] := by
  unfold mroB at h
  cases e : PySem.W.clsIn K C with
  | none =>
    rw [e] at h
    cases h
  | some cd =>
    rw [e] at h
    exact ⟨cd, rfl, of_decide_eq_true h⟩
theorem addB_ok {K : PySem.W.Frag} {C D : Str} (h : addB K C D = true) : AddK K (He.ga K C) (He.ga K D) (He.ma K (He.ga K C) "__add__") := by
  obtain ⟨h1, h⟩ := He.ba h
  obtain ⟨h2, h⟩ := He.ba h
  obtain ⟨h3, h⟩ := He.ba h
  obtain ⟨h4, h⟩ := He.ba h
  obtain ⟨h5, h⟩ := He.ba h
  obtain ⟨h6, h7⟩ := He.ba h
  exact ⟨of_decide_eq_true h1, mroB_ok h2, mroB_ok h3, He.eqO_ok h4, h5, He.eqO_ok h6, He.eqO_ok h7⟩
section
variable {K : PySem.W.Frag} {M : Model} {h : Heap} {C D f : Addr}
theorem fills_own (X : K.In h) (a : AddK K C D f) : PySem.W.Looks M h (fillsNumberSlot (.ref C) "add") true := by
  obtain ⟨cd, e1, e2⟩ := a.c1
  have L1 : PySem.W.Looks M h (mroOf (.ref C)) cd.mro := (PySem.W.looks_clsIn X e1).andThen .now
  have L2 : PySem.W.Looks M h (typeLookup (.ref C) "__add__") (some (.ref f)) := PySem.W.looks_findIn X a.at_
  unfold fillsNumberSlot
  refine PySem.W.Looks.andThen L1 ?_
  rw [e2]
  simp only [List.anyM]
  refine PySem.W.Looks.andThen (a := true) ?_ .now
  refine PySem.W.Looks.andThen (a := true) (PySem.W.Looks.andThen L2 ?_) .now
  exact .now
theorem fills_none (X : K.In h) (a : AddK K C D f) : PySem.W.Looks M h (fillsNumberSlot (.ref D) "add") false := by
  obtain ⟨cd, e1, e2⟩ := a.c2
  have L1 : PySem.W.Looks M h (mroOf (.ref D)) cd.mro := (PySem.W.looks_clsIn X e1).andThen .now
  have L2 : PySem.W.Looks M h (typeLookup (.ref D) "__add__") none := PySem.W.looks_findIn X a.n1
  have L3 : PySem.W.Looks M h (typeLookup (.ref D) "__radd__") none := PySem.W.looks_findIn X a.n2
  have L4 : PySem.W.Looks M h (typeLookup (.type "object") "__add__") none := .of_pure (by rw [typeLookup_type, builtinLookup_eq_fast]; kernel_rfl)
  have L5 : PySem.W.Looks M h (typeLookup (.type "object") "__radd__") none := .of_pure (by rw [typeLookup_type, builtinLookup_eq_fast]; kernel_rfl)
  unfold fillsNumberSlot
  refine PySem.W.Looks.andThen L1 ?_
  rw [e2]
  simp only [List.anyM]
  refine PySem.W.Looks.andThen (a := false) ?_ ?_
  · refine PySem.W.Looks.andThen (a := false) (PySem.W.Looks.andThen L2 .now) ?_
    exact PySem.W.Looks.andThen (a := false) (PySem.W.Looks.andThen L3 .now) .now
  · refine PySem.W.Looks.andThen (a := false) ?_ .now
    exact PySem.W.Looks.andThen L4 (PySem.W.Looks.andThen L5 .now)
end
section
variable {X : Cx} {CX : CXT} {k : Nat} {C D : Str} {ps : List Str} {sp : Sp} {E : XK}
/-- x + y: x an instance of C with its own __add__, y one of D with none -/
theorem op_addO (a : AddK X.K (He.ga X.K C) (He.ga X.K D) (He.ma X.K (He.ga X.K C) "__add__")) (G : PromM X.prog X.w X.K X.mg X.base CX k C "__add__" ps sp) (hr : Room k X.A) (hx : Passes CX X E) :
    OpR X (binaryOp .Add) (fun x y H Q => ∃ p q dx fs dy gs, x = .ref p ∧ y = .ref q ∧ H p = some (.ins (He.ga X.K C) dx fs) ∧ H q = some (.ins (He.ga X.K D) dy gs) ∧ sp [.ref p, .ref q] H Q E) := by
  intro pins s σ H x y v u Q I rx ry h
  obtain ⟨p, q, dx, fs, dy, gs, rfl, rfl, hp, hq, h⟩ := h
  obtain rfl : v = Value.ref p := rx
  obtain rfl : u = Value.ref q := ry
  obtain ⟨m1, O1, _⟩ := ins_get I.hok hp
  obtain ⟨od1, J1, _⟩ := O1.look
  obtain ⟨m2, O2, _⟩ := ins_get I.hok hq
  obtain ⟨od2, J2, _⟩ := O2.look
  obtain ⟨fd, F, b⟩ := G.ex
  have ne : (Value.ref (He.ga X.K C) == Value.ref (He.ga X.K D)) = false := by
    rw [beq_eq_false_iff_ne]
    exact fun z => a.ne (by injection z)
  unfold binaryOp
  refine wpAny_holding ?_
  show wpAny _ _ (binaryOp1 "add" (.ref p) (.ref q) >>= _) _ _ s
  refine wpAny_bind ?_
  unfold binaryOp1
  refine wpAny_bind (J1.type.here (wpAny_bind (J2.type.here (wpAny_bind ((fills_own I.kIn a).here ?_)))))
  rw [ne]
  refine wpAny_bind ((fills_none I.kIn a).here ?_)
  simp only [Bool.and_false, Bool.false_and, Bool.false_eq_true, if_false, if_true]
  refine wpAny_bind (wpAny_pure ?_)
  simp only [Bool.false_eq_true, if_false]
  unfold tryMethod callSpecial? specialOf
  refine wpAny_bind (wpAny_bind (wpAny_bind (wpAny_bind (J1.type.here ((PySem.W.looks_findIn I.kIn a.at_).here ?_)))))
  refine wpAny_holding (wpAny_bind ((PySem.W.bind_fn I.kIn (.ref p) (beq_iff_eq.mp a.fn)).here ?_))
  refine wpAny_bind (thn (run_fn (us := [.ref p, .ref q]) (vs := [.ref p, .ref q]) F hr b .nil hx I (.cons rfl (.cons rfl .nil)) h) fun v s' hv => wpAny_pure ?_)
  have fin : wpAny (model X.prog X.w) X.A (pure (some v) : Sem (Option Value)) (fun r s2 => wpAny (model X.prog X.w) X.A (match r with
      | some v => pure v
      | _ => do
        let ty ← typeOf (Value.ref p)
        let sl ← seqSlot? ty (Str.ofString "__add__")
        match sl with
          | some f => do
            rule "binop.sequence-concat"
            call f [Value.ref p, Value.ref q]
          | _ => binopTypeError "+" (Value.ref p) (Value.ref q)) (EP X pins σ Q) X.xe s2) X.xe s' := wpAny_pure (wpAny_pure hv)
  obtain ⟨x, H', I', r, q'⟩ := hv
  cases x with
  | non => cases (show v = Value.none from r); exact wpAny_pure fin
  | bl c => cases (show v = Value.bool c from r); exact wpAny_pure fin
  | int i => obtain ⟨t, rfl⟩ := (show ∃ t, v = Value.int i t from r); exact wpAny_pure fin
  | str i => obtain ⟨t, rfl⟩ := (show ∃ t, v = Value.str i t from r); exact wpAny_pure fin
  | byt i => obtain ⟨t, rfl⟩ := (show ∃ t, v = Value.bytes i t from r); exact wpAny_pure fin
  | flt i => obtain ⟨t, rfl⟩ := (show ∃ t, v = Value.float i t from r); exact wpAny_pure fin
  | ref a => cases (show v = Value.ref a from r); exact wpAny_pure fin
  | ty n => cases (show v = Value.type n from r); exact wpAny_pure fin
end
end Sz
/-! texts: what is joined, and its repr -/
namespace Sz
open PySem PySem.Spec PyProof.Rows L2
def Signs (x : Str) : Prop := ∀ c ∈ x.cps.toList, c < 16 ^ 8
theorem signs_of (s : String) : Signs (Str.ofString s) := fun c hc => by
  rw [Str.ofString_eq_toList] at hc
  have hc : c ∈ s.toList.map Char.toNat := by simpa using hc
  obtain ⟨d, _, rfl⟩ := List.mem_map.mp hc
  have h := d.valid
  have h2 : d.toNat < 1114112 := by
    rcases h with h | h
    · exact Nat.lt_trans h (by decide)
    · exact h.2
  exact Nat.lt_of_lt_of_le h2 (by decide)
theorem joinL_mem {sep : List Nat} {c : Nat} : ∀ {l : List (List Nat)}, c ∈ TL.joinL sep l → c ∈ sep ∨ ∃ y ∈ l, c ∈ y
  | [], h => by simp [TL.joinL] at h
  | [p], h => .inr ⟨p, by simp, h⟩
  | p :: q :: r, h => by
    rcases List.mem_append.mp (show c ∈ p ++ (sep ++ TL.joinL sep (q :: r)) from h) with h | h
    · exact .inr ⟨p, by simp, h⟩
    · rcases List.mem_append.mp h with h | h
      · exact .inl h
      · rcases joinL_mem h with h | ⟨y, hy, hc⟩
        · exact .inl h
        · exact .inr ⟨y, List.mem_cons_of_mem _ hy, hc⟩
theorem joinL_len {sep : List Nat} : ∀ {l : List (List Nat)}, (TL.joinL sep l).length ≤ (l.map (·.length)).sum + l.length * sep.length
  | [] => by simp [TL.joinL]
  | [p] => by simp [TL.joinL]
  | p :: q :: r => by
    have ih := joinL_len (sep := sep) (l := q :: r)
    show (p ++ (sep ++ TL.joinL sep (q :: r))).length ≤ _
    rw [List.length_append, List.length_append]
    simp only [List.map_cons, List.sum_cons, List.length_cons, Nat.add_mul, Nat.one_mul] at ih ⊢
    omega
theorem join_signs {sep : Str} {ys : List Str} (h : Signs sep) (h2 : ∀ y ∈ ys, Signs y) : Signs (Txt.join sep ys) := fun c hc => by
  rw [TL.join_eq] at hc
  have hc : c ∈ TL.tl (Str.join sep ys) := hc
  rw [TL.tl_join] at hc
  rcases joinL_mem hc with z | ⟨y, hy, z⟩
  · exact h c z
  · obtain ⟨y', hy', rfl⟩ := List.mem_map.mp hy
    exact h2 y' hy' c z
theorem join_len {sep : Str} {ys : List Str} : (Txt.join sep ys).length ≤ (ys.map (·.length)).sum + ys.length * sep.length := by
  have e : ∀ x : Str, x.length = (TL.tl x).length := fun x => by
    show x.cps.size = x.cps.toList.length
    simp
  rw [TL.join_eq, e, TL.tl_join]
  have := joinL_len (sep := TL.tl sep) (l := ys.map TL.tl)
  rw [List.map_map, List.length_map] at this
  have e2 : ys.map ((·.length) ∘ TL.tl) = ys.map (·.length) := by
    apply List.map_congr_left
    intro y _
    exact (e y).symm
  rw [e2] at this
  rw [e sep]
  exact this
theorem repr_fits {x : Str} (h : Signs x) (hl : x.length ≤ 100000) : (reprText x).length ≤ sizeLine := by
  have := PySem.StrLaws.reprText_len x h
  rw [sizeLine_eq]
  omega
/-- repr of a text -/
theorem cr_reprS {X : Cx} : CallR X (.builtin "repr") (fun xs H Q => ∃ y : Str, xs = [.str y] ∧ (reprText y).length ≤ sizeLine ∧ Q (.str (reprText y)) H) := by
  intro pins s σ H xs us Q I r h
  obtain ⟨y, rfl, hz, q⟩ := h
  obtain ⟨u, rfl, ru⟩ := vals1 r
  obtain ⟨t, rfl⟩ := (show ∃ t, u = Value.str y t from ru)
  exact PySem.P.repr_of_str ⟨.str _, H, I.tok _, ⟨_, rfl⟩, q⟩ hz
end Sz
/-! len(x) by an own __len__ -/
namespace Sz
open PySem PySem.Spec PyProof.Rows L2
section
variable {X : Cx} {CX : CXT} {k : Nat} {C : Str} {ps : List Str} {sp : Sp} {E : XK}
theorem cr_lenO (G : PromM X.prog X.w X.K X.mg X.base CX k C "__len__" ps sp) (hr : Room (k + 1) X.A) (hx : Passes CX X E) :
    CallR X (.builtin "len") (fun xs H Q => ∃ p dx fs, xs = [.ref p] ∧ H p = some (.ins (He.ga X.K C) dx fs) ∧ sp [.ref p] H (fun v H' => ∃ n : Int, v = .int n ∧ 0 ≤ n ∧ n < 2 ^ 63 ∧ Q (.int n) H') E) := by
  intro pins s σ H xs us Q I r h
  obtain ⟨p, dx, fs, rfl, hp, h⟩ := h
  obtain ⟨u, rfl, ru⟩ := vals1 r
  obtain rfl : u = Value.ref p := ru
  obtain ⟨m1, O1, _⟩ := ins_get I.hok hp
  obtain ⟨od1, J1, _⟩ := O1.look
  obtain ⟨fd, F, b⟩ := G.ex
  have hl : ([Value.ref p] ++ ([] : List Value)).length = ps.length := by
    have := F.len _ _ _ _ h
    simpa using this
  refine Calls.call_function_entry kind_len plain_len entry_len (args_len1 _) ?_
  unfold Builtin.«len»
  refine wpAny_bind (m := oneArg "len" _) (wpAny_pure ?_)
  refine wpAny_bind (m := callSpecial? (.ref p) (Str.ofString "__len__")) ?_
  unfold callSpecial? specialOf
  refine wpAny_bind (wpAny_bind (J1.type.here ((PySem.W.looks_findIn I.kIn G.me.at_).here ?_)))
  refine wpAny_holding (wpAny_bind ((PySem.W.bind_fn I.kIn (.ref p) (beq_iff_eq.mp G.me.fn)).here (wpAny_bind ?_)))
  have vv : Vals [V.ref p] [Value.ref p] := .cons rfl .nil
  have bb : BindsTo s fd ⟨[Value.ref p], []⟩ (ps.zip [Value.ref p]) := b s [Value.ref p] I.kIn hl
  refine wpAny_call (codeAny_mono (F.run X.A.in1 X.stack s H ⟨[Value.ref p], []⟩ [Value.ref p] [V.ref p] _ E hr.in1 I.env0.in1 bb vv h) fun rr s' hq => ?_)
  cases rr with
  | error e => exact hx pins σ H s e s' I hq
  | ok fl =>
    cases fl with
    | ret v =>
      obtain ⟨v', H', I', rv, n, rfl, n0, n1, q⟩ := I.after hq
      obtain ⟨t, rfl⟩ := (show ∃ t, v = Value.int n t from rv)
      refine wpAny_pure ?_
      refine wpAny_bind (wpAny_holding (wpAny_pure ?_))
      refine wpAny_bind (wpAny_letGo ?_)
      show wpAny _ _ (if n < 0 then _ else _) _ _ _
      rw [if_neg (by omega)]
      show wpAny _ _ (if n ≥ 2 ^ 63 then _ else _) _ _ _
      rw [if_neg (by omega)]
      exact wpAny_bind (wpAny_mkInt (wpAny_pure ⟨_, rfl, .int n, H', I'.tok _, ⟨_, rfl⟩, q⟩))
    | next => exact False.elim hq
    | brk => exact False.elim hq
    | cont => exact False.elim hq
end
end Sz
namespace Sz
/-! ### sizes rise with the length -/
theorem totF_lt {b n m : Int} (hb : 2 ≤ b) (hn : 0 ≤ n) (h : n < m) : totF b n < totF b m := by
  have s := (totF_is hb hn).tot
  have t := (totF_is (b := b) (n := m) hb (by omega)).tot
  by_cases c : totF b n < totF b m
  · exact c
  · have l := fig_lip hb (show totF b m ≤ totF b n by omega) t s
    omega
theorem totF_mono {b n m : Int} (hb : 2 ≤ b) (hn : 0 ≤ n) (h : n ≤ m) : totF b n ≤ totF b m := by
  by_cases c : n = m
  · rw [c]
    exact Int.le_refl _
  · exact Int.le_of_lt (totF_lt hb hn (by omega))
theorem beg_mono {n k m : Int} (hm : 1 ≤ m) (h : n ≤ k) : beg n m ≤ beg k m := Int.ediv_le_ediv (by omega) (by omega)
/-- n = m q + r -/
theorem beg_parts {n m : Int} (hm : 1 ≤ m) : beg n m = n / m + (if 0 < n % m then 1 else 0) := by
  unfold beg
  have e := Int.mul_ediv_add_emod n m
  have r0 := Int.emod_nonneg n (show m ≠ 0 by omega)
  have r1 := Int.emod_lt_of_pos n (show 0 < m by omega)
  split
  · have e2 : n + m - 1 = (n % m - 1) + m * (n / m + 1) := by rw [Int.mul_add, Int.mul_one]; omega
    rw [e2, Int.add_mul_ediv_left _ _ (by omega), Int.ediv_eq_zero_of_lt (by omega) (by omega)]
    omega
  · have e2 : n + m - 1 = (m - 1) + m * (n / m) := by omega
    rw [e2, Int.add_mul_ediv_left _ _ (by omega), Int.ediv_eq_zero_of_lt (by omega) (by omega)]
    omega
theorem pieces_step {b m c n : Int} (hb : 2 ≤ b) (h : (Wr.pieces m c).ok) (hn : 0 ≤ n) : (Wr.pieces m c).gr b n ≤ (Wr.pieces m c).gr b (n + 1) := by
  simp only [Wr.ok] at h
  simp only [Wr.gr]
  have r0 := Int.emod_nonneg n (show m ≠ 0 by omega)
  have r1 := Int.emod_lt_of_pos n (show 0 < m by omega)
  have e := Int.mul_ediv_add_emod n m
  by_cases z : n % m + 1 < m
  · have d : (n + 1) / m = n / m := by
      have e2 : n + 1 = (n % m + 1) + m * (n / m) := by omega
      rw [e2, Int.add_mul_ediv_left _ _ (by omega), Int.ediv_eq_zero_of_lt (by omega) z]
      have e3 : ((n % m + 1) + m * (n / m)) = n + 1 := by omega
      omega
    have r : (n + 1) % m = n % m + 1 := by
      have e3 := Int.mul_ediv_add_emod (n + 1) m
      rw [d] at e3
      omega
    rw [d, r, if_pos (show 0 < n % m + 1 by omega)]
    have f0 := figF_pos (b := b) (n := n % m + 1) hb
    have f1 := figF_mono (b := b) (n := n % m) (m := n % m + 1) hb (by omega)
    split <;> omega
  · have rm : n % m = m - 1 := by omega
    have e2 : n + 1 = 0 + m * (n / m + 1) := by rw [Int.mul_add, Int.mul_one]; omega
    have d : (n + 1) / m = n / m + 1 := by
      rw [e2, Int.add_mul_ediv_left _ _ (by omega), Int.zero_ediv]
      omega
    have r : (n + 1) % m = 0 := by
      have e3 := Int.mul_ediv_add_emod (n + 1) m
      rw [d, Int.mul_add, Int.mul_one] at e3
      omega
    rw [d, r, rm, if_neg (show ¬ (0 : Int) < 0 by omega), Int.add_mul, Int.one_mul]
    have f0 := figF_pos (b := b) (n := m) hb
    have f1 := figF_mono (b := b) (n := m - 1) (m := m) hb (by omega)
    split <;> omega
theorem step_le {f : Int → Int} (h : ∀ n, 0 ≤ n → f n ≤ f (n + 1)) {n : Int} (hn : 0 ≤ n) : ∀ k : Nat, f n ≤ f (n + k)
  | 0 => by simp
  | k + 1 => by
    have ih := step_le h hn k
    have := h (n + k) (by omega)
    have e : n + ((k + 1 : Nat) : Int) = n + k + 1 := by omega
    rw [e]
    omega
theorem gr_mono {b : Int} {a : Wr} (hb : 2 ≤ b) (h : a.ok) {n k : Int} (hn : 0 ≤ n) (hk : n ≤ k) : a.gr b n ≤ a.gr b k := by
  cases a with
  | plus c => simp only [Wr.gr]; omega
  | told c =>
    simp only [Wr.gr]
    have := figF_mono (b := b) hb hk
    omega
  | whole c =>
    simp only [Wr.ok] at h
    exact totF_mono hb (by omega) (by omega)
  | pieces m c =>
    have := step_le (f := (Wr.pieces m c).gr b) (fun n hn => pieces_step hb h hn) hn (k - n).toNat
    have e : n + ((k - n).toNat : Int) = k := by omega
    rw [e] at this
    exact this
  | cut m c =>
    simp only [Wr.ok] at h
    simp only [Wr.gr]
    have := Int.mul_le_mul_of_nonneg_right (beg_mono h.1 hk) (show 0 ≤ c by omega)
    omega
  | coded m c =>
    simp only [Wr.ok] at h
    exact Int.mul_le_mul_of_nonneg_right (beg_mono h.1 hk) (show 0 ≤ c by omega)
  | filled m =>
    simp only [Wr.ok] at h
    exact Int.mul_le_mul_of_nonneg_right (beg_mono h.1 hk) (show 0 ≤ m by omega)
/-- a size is no less than its length -/
theorem gr_ge {b : Int} {a : Wr} (hb : 2 ≤ b) (h : a.ok) {n : Int} (hn : 0 ≤ n) : n ≤ a.gr b n := by
  have bg : ∀ m : Int, 1 ≤ m → n ≤ beg n m * m := fun m hm => by
    have e := Int.mul_ediv_add_emod n m
    have r0 := Int.emod_nonneg n (show m ≠ 0 by omega)
    have r1 := Int.emod_lt_of_pos n (show 0 < m by omega)
    rw [beg_parts hm, Int.add_mul]
    have c := Int.mul_comm m (n / m)
    split
    · rw [Int.one_mul]
      omega
    · rw [Int.zero_mul]
      omega
  cases a with
  | plus c =>
    simp only [Wr.ok] at h
    simp only [Wr.gr]
    omega
  | told c =>
    simp only [Wr.ok] at h
    simp only [Wr.gr]
    have := figF_pos (b := b) (n := n) hb
    omega
  | whole c =>
    simp only [Wr.ok] at h
    simp only [Wr.gr]
    have := isTot_pos (totF_is (b := b) (n := n + c) hb (by omega)).tot
    omega
  | pieces m c =>
    simp only [Wr.ok] at h
    simp only [Wr.gr]
    have e := Int.mul_ediv_add_emod n m
    have r0 := Int.emod_nonneg n (show m ≠ 0 by omega)
    have q0 := Int.ediv_nonneg hn (show 0 ≤ m by omega)
    have f0 := figF_pos (b := b) (n := m) hb
    have f1 := figF_pos (b := b) (n := n % m) hb
    have p := Int.mul_le_mul_of_nonneg_left (show m ≤ m + c + figF b m by omega) q0
    have c := Int.mul_comm m (n / m)
    split <;> omega
  | cut m c =>
    simp only [Wr.ok] at h
    simp only [Wr.gr]
    have := Int.mul_nonneg (beg_le hn h.1).2 (show 0 ≤ c by omega)
    omega
  | coded m c =>
    simp only [Wr.ok] at h
    simp only [Wr.gr]
    have h1 := bg m h.1
    have := Int.mul_le_mul_of_nonneg_left (show m ≤ c by omega) (beg_le hn h.1).2
    omega
  | filled m =>
    simp only [Wr.ok] at h
    exact bg m h.1
end Sz
/-! data that can be shown and compared: how deep, how long the text -/
namespace Sz
open PySem PySem.Spec PyProof.Rows L2
/-- can be shown: at most so deep, at most so long -/
structure Sho (d : PyData) (k m : Nat) : Prop where
  able : d.showable = true
  nod : d.hasDict = false
  deep : d.depth ≤ k
  long : d.shown.length ≤ m
theorem Sho.mono {d : PyData} {k m k' m' : Nat} (h : Sho d k m) (hk : k ≤ k') (hm : m ≤ m') : Sho d k' m' := ⟨h.able, h.nod, Nat.le_trans h.deep hk, Nat.le_trans h.long hm⟩
theorem sho_int {i : Int} (k : Nat) (hk : 0 < k) (hk2 : k ≤ 500) (h : i.natAbs < 10 ^ k) : Sho (.int i) 0 (k + 1) := by
  refine ⟨?_, rfl, Nat.le_refl _, ?_⟩
  · have h2 : i.natAbs < 2 ^ 1800 := Nat.lt_of_lt_of_le h (Nat.le_trans (Nat.pow_le_pow_right (by decide) hk2) (by decide))
    show decide (i.natAbs.log2 < 1920) = true
    exact decide_eq_true (Nat.lt_of_lt_of_le (PySem.Flt.log2_lt_of (by decide) h2) (by decide))
  · have h1 := int_text_length_le10 hk h
    have e : (Str.ofString (toString i)).length = (toString i : String).length := PySem.ofString_length _
    show (Str.ofString (toString i)).length ≤ k + 1
    omega
theorem sho_bool (b : Bool) : Sho (.bool b) 0 5 := by cases b <;> exact ⟨rfl, rfl, Nat.le_refl _, by decide⟩
theorem sho_none : Sho .none 0 4 := ⟨rfl, rfl, Nat.le_refl _, by decide⟩
theorem sho_all {k m : Nat} : ∀ ds : List PyData, (∀ d ∈ ds, Sho d k m) → PyData.showableAll ds = true ∧ PyData.hasDictAll ds = false ∧ PyData.depthAll ds ≤ k ∧ ((PyData.shownAll ds).map (·.length)).sum ≤ m * ds.length ∧ (PyData.shownAll ds).length = ds.length
  | [], _ => ⟨rfl, rfl, Nat.zero_le _, by simp [PyData.shownAll], rfl⟩
  | d :: ds, h => by
    obtain ⟨h1, h2, h3, h4, h5⟩ := sho_all ds fun y hy => h y (List.mem_cons_of_mem _ hy)
    obtain ⟨g1, g2, g3, g4⟩ := h d (List.mem_cons_self ..)
    refine ⟨?_, ?_, ?_, ?_, ?_⟩
    · show (d.showable && PyData.showableAll ds) = true
      rw [g1, h1]
      rfl
    · show (d.hasDict || PyData.hasDictAll ds) = false
      rw [g2, h2]
      rfl
    · show max d.depth (PyData.depthAll ds) ≤ k
      omega
    · show ((d.shown :: PyData.shownAll ds).map (·.length)).sum ≤ m * (ds.length + 1)
      rw [List.map_cons, List.sum_cons, Nat.mul_add, Nat.mul_one]
      omega
    · show (PyData.shownAll ds).length + 1 = ds.length + 1
      rw [h5]
theorem sho_tuple {k m : Nat} {ds : List PyData} (h : ∀ d ∈ ds, Sho d k m) : Sho (.tuple ds) (k + 1) ((m + 2) * ds.length + 4) := by
  obtain ⟨h1, h2, h3, h4, h5⟩ := sho_all ds h
  refine ⟨h1, h2, ?_, ?_⟩
  · show PyData.depthAll ds + 1 ≤ k + 1
    omega
  · show (tupleText (PyData.shownAll ds)).length ≤ _
    have h6 := tupleText_len_le (PyData.shownAll ds)
    rw [h5] at h6
    rw [Nat.add_mul]
    omega
theorem sho_list {k m : Nat} {ds : List PyData} (h : ∀ d ∈ ds, Sho d k m) : Sho (.list ds) (k + 1) ((m + 2) * ds.length + 4) := by
  obtain ⟨h1, h2, h3, h4, h5⟩ := sho_all ds h
  refine ⟨h1, h2, ?_, ?_⟩
  · show PyData.depthAll ds + 1 ≤ k + 1
    omega
  · show (listText (PyData.shownAll ds)).length ≤ _
    have h6 := listText_len_le (PyData.shownAll ds)
    rw [h5] at h6
    rw [Nat.add_mul]
    omega
/-! what can be laid and compared -/
structure Shp (d : PyData) (k : Nat) : Prop where
  lay : d.canLay0 = true
  deep : d.depth ≤ k
theorem Shp.mono {d : PyData} {k k' : Nat} (h : Shp d k) (hk : k ≤ k') : Shp d k' := ⟨h.lay, Nat.le_trans h.deep hk⟩
theorem Shp.shaped {d : PyData} {k : Nat} (h : Shp d k) (hk : k ≤ 30 := by decide) : SeqAt.shaped d = true := by
  have h2 := h.deep
  simp [SeqAt.shaped, h.lay]
  omega
theorem shp_int (i : Int) : Shp (.int i) 0 := ⟨rfl, Nat.le_refl _⟩
theorem shp_str {s : Str} (h : PyData.strOk s = true) : Shp (.str s) 0 := ⟨h, Nat.le_refl _⟩
theorem shp_bool (b : Bool) : Shp (.bool b) 0 := ⟨rfl, Nat.le_refl _⟩
theorem shp_none : Shp .none 0 := ⟨rfl, Nat.le_refl _⟩
theorem shp_all {k : Nat} : ∀ ds : List PyData, (∀ d ∈ ds, Shp d k) → PyData.canLayAll0 ds = true ∧ PyData.depthAll ds ≤ k
  | [], _ => ⟨rfl, Nat.zero_le _⟩
  | d :: ds, h => by
    obtain ⟨h1, h2⟩ := shp_all ds fun y hy => h y (List.mem_cons_of_mem _ hy)
    obtain ⟨g1, g2⟩ := h d (List.mem_cons_self ..)
    refine ⟨?_, ?_⟩
    · show (d.canLay0 && PyData.canLayAll0 ds) = true
      rw [g1, h1]
      rfl
    · show max d.depth (PyData.depthAll ds) ≤ k
      omega
theorem shp_tuple {k : Nat} {ds : List PyData} (h : ∀ d ∈ ds, Shp d k) : Shp (.tuple ds) (k + 1) := by
  obtain ⟨h1, h2⟩ := shp_all ds h
  refine ⟨h1, ?_⟩
  show PyData.depthAll ds + 1 ≤ k + 1
  omega
theorem shp_list {k : Nat} {ds : List PyData} (h : ∀ d ∈ ds, Shp d k) : Shp (.list ds) (k + 1) := by
  obtain ⟨h1, h2⟩ := shp_all ds h
  refine ⟨h1, ?_⟩
  show PyData.depthAll ds + 1 ≤ k + 1
  omega
theorem shp_ints_t (xs : List Int) : Shp (.tuple (xs.map PyData.int)) 1 := shp_tuple (k := 0) fun d hd => by
  obtain ⟨i, _, rfl⟩ := List.mem_map.mp hd
  exact shp_int i
theorem shp_ints_l (xs : List Int) : Shp (.list (xs.map PyData.int)) 1 := shp_list (k := 0) fun d hd => by
  obtain ⟨i, _, rfl⟩ := List.mem_map.mp hd
  exact shp_int i
end Sz
/-! str(x), f"{x}" by an own __str__; x == y, x != y by an own __eq__ -/
namespace Sz
open PySem PySem.Spec PyProof.Rows L2
/-- what the class must have -/
structure StrK (K : PySem.W.Frag) (C : Addr) : Prop where
  fmt : PySem.W.findIn K (.ref C) "__format__" = some (some (.builtin "object.__format__"))
  mro : PySem.W.mroIn K C (.type "object") = some true
  ne : PySem.W.findIn K (.ref C) "__ne__" = some (some (.builtin "object.__ne__"))
def strB (K : PySem.W.Frag) (C : Addr) : Bool := He.eqO (PySem.W.findIn K (.ref C) "__format__") (some (some (.builtin "object.__format__"))) && (decide (PySem.W.mroIn K C (.type "object") = some true) && He.eqO (PySem.W.findIn K (.ref C) "__ne__") (some (some (.builtin "object.__ne__"))))
theorem strB_ok {K : PySem.W.Frag} {C : Addr} (h : strB K C = true) : StrK K C := by
  obtain ⟨h1, h⟩ := He.ba h
  obtain ⟨h2, h3⟩ := He.ba h
  exact ⟨He.eqO_ok h1, of_decide_eq_true h2, He.eqO_ok h3⟩
section
variable {X : Cx} {CX : CXT} {k n : Nat} {C : Str} {ps : List Str} {sp : Sp} {E : XK}
/-- the own method of an instance is called somewhere below the running body -/
theorem run_own {m : Str} (G : PromM X.prog X.w X.K X.mg X.base CX k C m ps sp) (hx : Passes CX X E) {A : Around} (sb : L2.Sub X k A) {pins : List (Addr × Obj)} {s : Shared} {σ : L2.St} {H : Hp} {vs : List V} {us : List Value} {Q : VK}
    (I : Inv X pins σ H s) (r : Vals vs us) (h : sp vs H Q E) : wpAny (model X.prog X.w) A (call (.ref (He.ma X.K (He.ga X.K C) m)) us) (EP X pins σ Q) X.xe s := by
  obtain ⟨fd, F, b⟩ := G.ex
  have hl := F.len _ _ _ _ h
  have e0 : Env0 X.prog X.w X.K X.mg X.base A X.stack s H := by
    have e := I.env0
    exact ⟨by rw [sb.fr]; exact e.frames, e.mod, e.bs, e.bsz, e.funs, e.frf, e.hok, e.bare⟩
  have hl2 : us.length = ps.length := by rw [← hl]; exact r.length.symm
  refine wpAny_call (codeAny_mono (F.run A X.stack s H ⟨us, []⟩ us vs _ E sb.room e0 (by
    have := b s us I.kIn (by simpa using hl2)
    simpa using this) r h) fun rr s' hq => ?_)
  cases rr with
  | error e => exact hx pins σ H s e s' I hq
  | ok fl =>
    cases fl with
    | ret v =>
      obtain ⟨z, H', I', rz, q⟩ := I.after hq
      exact ⟨z, H', I', rz, q⟩
    | next => exact False.elim hq
    | brk => exact False.elim hq
    | cont => exact False.elim hq
theorem strBack_of {pins : List (Addr × Obj)} {σ : L2.St} {Q : VK} {v : Value} {s' : Shared} (h : EP X pins σ (fun v H => ∃ y : Str, v = .str y ∧ Q (.str y) H) v s') : PySem.W.StrBack (EP X pins σ Q) v s' := by
  obtain ⟨z, H', I', rz, y, rfl, q⟩ := h
  obtain ⟨t, rfl⟩ := rz
  exact ⟨.str y, H', I', ⟨t, rfl⟩, q⟩
/-- f"{x}" by an own __str__ -/
def tFmtO (C : Addr) (sp : Sp) (E : XK) (te : TE) : TE := fun σ H Q => te σ H fun x H1 => ∃ p dx fs, x = .ref p ∧ H1 p = some (.ins C dx fs) ∧ sp [.ref p] H1 (fun v H2 => ∃ y : Str, v = .str y ∧ Q (.str y) H2) E
theorem pe_fmtO {e : Expr} {te : TE} {pos : Pos} (a : StrK X.K (He.ga X.K C)) (G : PromM X.prog X.w X.K X.mg X.base CX k C "__str__" ps sp) (hr : Room (k + 1) X.A) (hx : Passes CX X E) (he : PE X e te) :
    PE X (.FormattedValue e (-1) none pos) (tFmtO (He.ga X.K C) sp E te) := by
  refine ⟨fun pins s σ H Q I h => ?_⟩
  refine wpAny_FormattedValue_plain (thn (he.run pins s σ H _ I h) fun v s1 hv => ?_)
  obtain ⟨x, H1, I1, r1, p, dx, fs, rfl, hp, q⟩ := hv
  obtain rfl : v = Value.ref p := r1
  obtain ⟨m1, O1, _⟩ := ins_get I1.hok hp
  obtain ⟨od1, J1, _⟩ := O1.look
  refine PySem.W.kfo_fieldS hr.in1.units0 I1.kIn J1 a.fmt a.mro G.me.at_ G.me.fn ?_
  exact wpAny_mono (run_own G hx (A := X.A.in1) ⟨hr.in1, rfl⟩ (vs := [.ref p]) (us := [.ref p]) (I1.tok _) (.cons rfl .nil) q) (fun v s' z => strBack_of z) fun _ _ z => z
/-- str(x) by an own __str__ -/
theorem cr_strO (G : PromM X.prog X.w X.K X.mg X.base CX k C "__str__" ps sp) (hr : Room (k + 2) X.A) (hx : Passes CX X E) :
    CallR X (.type "str") (fun xs H Q => ∃ p dx fs, xs = [.ref p] ∧ H p = some (.ins (He.ga X.K C) dx fs) ∧ sp [.ref p] H (fun v H2 => ∃ y : Str, v = .str y ∧ Q (.str y) H2) E) := by
  intro pins s σ H xs us Q I r h
  obtain ⟨p, dx, fs, rfl, hp, h⟩ := h
  obtain ⟨u, rfl, ru⟩ := vals1 r
  obtain rfl : u = Value.ref p := ru
  obtain ⟨m1, O1, _⟩ := ins_get I.hok hp
  obtain ⟨od1, J1, _⟩ := O1.look
  refine callType_codes (T := "str") (Bi := Builtin.«object.__init__») (Q₁ := fun r s₁ => ∃ y u, r = .str y u ∧ EP X pins σ Q r s₁) PySem.F.called_str (PySem.F.typeCall_str_1 _) PySem.F.entry_object_init ?_ ?_
  · refine codeAny_of_tree ?_
    show wpAny _ X.A.in1.in1 (do checkBuiltinCall "str.__new__" ⟨[.type "str", .ref p], []⟩; again (.builtin "str.__new__" ⟨[.type "str", .ref p], []⟩)) _ _ s
    refine wpAny_bind (wpAny_of_eq (PySem.F.newCall_str_1 _) (wpAny_pure ⟨plainId_quiet (by decide +kernel) _, codeAny_builtin PySem.F.entry_str_new ?_⟩))
    rw [Around.under_plainId (by decide +kernel) _]
    rw [str_new_tree]
    refine wpAny_bind (wpAny_pure ?_)
    refine wpAny_bind (wpAny_of_eq isSubtype_str_str ?_)
    have key : wpAny (model X.prog X.w) X.A.in1.in1 (PySem.Builtin.Str.strOf (.ref p)) (fun r s₁ => ∃ y u, r = .str y u ∧ EP X pins σ Q r s₁) X.xe s := by
      unfold PySem.Builtin.Str.strOf
      rw [show PySem.Builtin.Str.isExactStr (.ref p) = false from rfl]
      refine wpAny_bind (m := cRoomFor _ _) (wpAny_cRoomFor hr.in1.in1.units0 ?_)
      refine wpAny_bind (m := callSpecial? (.ref p) (Str.ofString "__str__")) (PySem.W.special_fn I.kIn J1 G.me.at_ (beq_iff_eq.mp G.me.fn) (wpAny_mono (run_own G hx (A := X.A.in1.in1) ⟨hr.in1.in1, rfl⟩ (vs := [.ref p]) (us := [.ref p]) I (.cons rfl .nil) h) (fun v s' z => ?_) fun _ _ y => y))
      obtain ⟨z, H', I', rz, y, rfl, q⟩ := z
      obtain ⟨t, rfl⟩ := rz
      exact wpAny_pure ⟨_, _, rfl, .str y, H', I', ⟨t, rfl⟩, q⟩
    exact wpAny_bind (wpAny_mono key (fun r s₁ hr => wpAny_pure hr) fun _ _ y => y)
  · rintro obj s₁ ⟨y, u, rfl, hq⟩
    exact ⟨typeIs_str _ _ _, PySem.F.args_object_init_2 _ _, object_init_meets PySem.F.called_str.init.lookup PySem.F.called_str.made (by decide) X.prog X.w X.A.in1 _ s₁ ⟨typeIs_str _ _ _, rfl, hq⟩⟩
/-- x == y by an own __eq__ -/
theorem op_eqO (G : PromM X.prog X.w X.K X.mg X.base CX k C "__eq__" ps sp) (hr : Room k X.A) (hx : Passes CX X E) :
    OpR X (compareOp .Eq) (fun x y H Q => ∃ p q dx fs dy gs, x = .ref p ∧ y = .ref q ∧ H p = some (.ins (He.ga X.K C) dx fs) ∧ H q = some (.ins (He.ga X.K C) dy gs) ∧ sp [.ref p, .ref q] H (fun v H2 => ∃ b : Bool, v = .bl b ∧ Q (.bl b) H2) E) := by
  intro pins s σ H x y v u Q I rx ry h
  obtain ⟨p, q, dx, fs, dy, gs, rfl, rfl, hp, hq, h⟩ := h
  obtain rfl : v = Value.ref p := rx
  obtain rfl : u = Value.ref q := ry
  obtain ⟨m1, O1, _⟩ := ins_get I.hok hp
  obtain ⟨od1, J1, _⟩ := O1.look
  obtain ⟨m2, O2, _⟩ := ins_get I.hok hq
  obtain ⟨od2, J2, _⟩ := O2.look
  obtain ⟨m, hF⟩ := I.fr
  show wpAny (model X.prog X.w) X.A (richCompare .Eq (.ref p) (.ref q)) (EP X pins σ Q) X.xe s
  refine PySem.W.cmp_K (op := .Eq) (tb := .ref (He.ga X.K C)) hr.units0 hF I.ok.mod.kin J1 J2.type (by simp [PySem.W.notFirst]) G.me.at_ G.me.fn ?_
  refine wpAny_mono (run_own G hx (A := X.A) ⟨hr, rfl⟩ (vs := [.ref p, .ref q]) (us := [.ref p, .ref q]) I (.cons rfl (.cons rfl .nil)) h) (fun v s' z => ?_) fun _ _ y => y
  obtain ⟨z, H', I', rz, b, rfl, q⟩ := z
  cases rz
  exact ⟨.bl b, H', I', rfl, q⟩
/-- x != y by an own __eq__ -/
theorem op_neO (a : StrK X.K (He.ga X.K C)) (G : PromM X.prog X.w X.K X.mg X.base CX k C "__eq__" ps sp) (hr : Room (k + 1) X.A) (hx : Passes CX X E) :
    OpR X (compareOp .NotEq) (fun x y H Q => ∃ p q dx fs dy gs, x = .ref p ∧ y = .ref q ∧ H p = some (.ins (He.ga X.K C) dx fs) ∧ H q = some (.ins (He.ga X.K C) dy gs) ∧ sp [.ref p, .ref q] H (fun v H2 => ∃ b : Bool, v = .bl b ∧ Q (.bl !b) H2) E) := by
  intro pins s σ H x y v u Q I rx ry h
  obtain ⟨p, q, dx, fs, dy, gs, rfl, rfl, hp, hq, h⟩ := h
  obtain rfl : v = Value.ref p := rx
  obtain rfl : u = Value.ref q := ry
  obtain ⟨m1, O1, _⟩ := ins_get I.hok hp
  obtain ⟨od1, J1, _⟩ := O1.look
  obtain ⟨m2, O2, _⟩ := ins_get I.hok hq
  obtain ⟨od2, J2, _⟩ := O2.look
  show wpAny (model X.prog X.w) X.A (richCompare .NotEq (.ref p) (.ref q)) (EP X pins σ Q) X.xe s
  have one : wpAny (model X.prog X.w) X.A (tryCompare (.ref p) "__ne__" (.ref q)) (fun r s' => ∃ v, r = some v ∧ EP X pins σ Q v s') X.xe s := by
    unfold tryCompare
    refine wpAny_bind ?_
    simp only [callSpecialIfBound?, bindSpecialIfBound?]
    refine wpAny_holding (wpAny_bind (wpAny_bind (wpAny_bind (J1.type.here ((PySem.W.looks_findIn I.kIn a.ne).here ?_)))))
    refine wpAny_bind (wpAny_askSetting (wpAny_ite ?_))
    have run : wpAny (model X.prog X.w) X.A (call (.builtin "object.__ne__") [.ref p, .ref q]) (fun r s' => ∃ b : Bool, r = .bool b ∧ EP X pins σ Q (.bool b) s') X.xe s := by
      refine wpAny_call (codeAny_call_builtin PySem.F.slot_object_ne.plain PySem.F.entry_object_ne (PySem.W.check_slot (i := "object.__ne__") (owner := "object") (n := "__ne__") (by decide +kernel) (by decide +kernel) (J1.type.andThen (PySem.W.looks_mroIn I.kIn a.mro)) (PySem.F.args_object_ne_2 _ _) ?_))
      unfold Builtin.«object.__ne__»
      refine wpAny_bind (m := slotArgs "__ne__" 1 _) (wpAny_pure ?_)
      refine wpAny_bind (m := cRoomFor _ _) (wpAny_cRoomFor hr.in1.units0 ?_)
      refine wpAny_bind (m := callSpecialIfBound? (.ref p) (Str.ofString "__eq__") _) (PySem.W.ifBound_K I.kIn J1 G.me.at_ G.me.fn (wpAny_mono (run_own G hx (A := X.A.in1) ⟨hr.in1, rfl⟩ (vs := [.ref p, .ref q]) (us := [.ref p, .ref q]) I (.cons rfl (.cons rfl .nil)) h) (fun r s' z => ?_) fun _ _ y => y))
      obtain ⟨z, H', I', rz, b, rfl, q⟩ := z
      cases rz
      exact wpAny_bind (wpAny_truthy_bool (wpAny_pure ⟨!b, rfl, .bl !b, H', I', rfl, q⟩))
    have fin : wpAny (model X.prog X.w) X.A (call (.builtin "object.__ne__") ([.ref p] ++ [.ref q]) >>= fun v => pure (some v)) (fun r s2 => ∃ b : Bool, r = some (.bool b) ∧ EP X pins σ Q (.bool b) s2) X.xe s :=
      wpAny_bind (wpAny_mono run (fun v s' h' => wpAny_pure (by obtain ⟨b, rfl, h'⟩ := h'; exact ⟨b, rfl, h'⟩)) fun _ _ h' => h')
    have fin2 := wpAny_mono (Q' := fun r s2 => wpAny (model X.prog X.w) X.A (match r with
      | some .notImplemented => pure none
      | none => pure none
      | some v => pure (some v) : Sem (Option Value)) (fun r s' => ∃ v, r = some v ∧ EP X pins σ Q v s') X.xe s2) fin (fun r s2 z => by
        obtain ⟨b, e, z⟩ := z
        subst e
        exact wpAny_pure ⟨_, rfl, z⟩) fun _ _ z => z
    split
    · exact wpAny_bind (wpAny_of_eq (PySem.F.slot_object_ne.bind _) (wpAny_pure (by exact fin2)))
    · exact wpAny_tryCatch (wpAny_bind (wpAny_of_eq (PySem.F.slot_object_ne.bind _) (wpAny_pure (by exact fin2))))
  unfold richCompare
  simp only [oneThing_ref]
  refine wpAny_holding (wpAny_bind (wpAny_cRoomFor hr.units0 ?_))
  rw [cmpInfo_NotEq]
  dsimp only
  refine wpAny_bind (J1.type.here (wpAny_bind (J2.type.here ?_)))
  rw [show (Value.ref (He.ga X.K C) != Value.ref (He.ga X.K C)) = false from by simp]
  simp only [Bool.false_eq_true, if_false]
  refine wpAny_bind (wpAny_pure ?_)
  simp only [Bool.false_eq_true, if_false]
  refine wpAny_bind (wpAny_mono one (fun r s' z => ?_) fun _ _ e => e)
  obtain ⟨v, rfl, hq⟩ := z
  exact wpAny_pure hq
end
end Sz
/-! set comprehensions of ints (the walk is that of HandS.SetBool, turned to ints), sorted(set) of any number -/
namespace Sz
open PySem PySem.Spec PyProof.Rows L2 PpSet
section
variable {X : Cx}
theorem addI_ok {pins : List (Addr × Obj)} {σ : L2.St} {H : Hp} {s : Shared} {E : Value → Shared → Prop} {D : Addr} {S : Int → Bool} {n : Nat} {y : Int} {tk : Tok} {Q : Value → Shared → Prop} (I : Inv X pins σ H s) (hD : H D = some (SetO X.w D S n)) (room : n + 1 < scanBound)
    (h : ∀ s', Inv X pins σ (upd H D (SetO X.w D (fun j => S j || decide (j = y)) (if S y = true then n else n + 1))) s' → Q .none s') : wpAny (model X.prog X.w) X.A (call (.builtin "set.add") [.ref D, .int y tk]) Q E s := by
  have R := setO_get I hD
  refine setR_add R room fun h' sb new => ?_
  have he : ∃ u, h'.get? D = some u := by
    have ⟨o, _, _, _, ho, _⟩ := new
    exact ⟨o, ho⟩
  exact h _ (I.write (e := D) (t' := s.toks + 1) (by rw [hD]; trivial) (.inl rfl) (fun b u hb hu => (sb.2 b hb).trans hu) he (setO_new new))
def tScI (w : World) (wi : TI) (g : TG) (tt : TT) (te : TE) (vs : List Nat) : TE := fun σ H Q => wi σ H fun J H1 => ∀ D, H1 D = none → ∃ W : Nat → Nat → Hp → Prop, (∃ m, W 0 m (upd H1 D (SetO w D (fun _ => false) 0))) ∧ ∀ i m H, W i m H →
  (J.stop i H ∧ Q (.ref D) H) ∨ (J.go i H ∧ ∃ Nx : Hp → Prop, (∀ H', Nx H' → ∃ m', m' < m ∧ W (i + 1) m' H') ∧ ∀ x H', J.yld i H x H' → g x (wipe σ vs) H' fun σ2 H2 => wipe σ2 vs = wipe σ vs ∧ tt σ2 H2 fun b H3 =>
    if b = true then te σ2 H3 fun y H4 => ∃ (c : Int) (S : Int → Bool) (n : Nat), y = .int c ∧ H4 D = some (SetO w D S n) ∧ n + 1 < scanBound ∧ Nx (upd H4 D (SetO w D (fun j => S j || decide (j = c)) (if S c = true then n else n + 1))) else Nx H3)
theorem sc_coreI {pins : List (Addr × Obj)} {s : Shared} {σ : L2.St} {H : Hp} {Q : VK} {elt tg iter : Expr} {ifs : List Expr} {scope : Scope} {own : List (PySem.Str × Nat)} {pos pos' : Pos} {wi : TI} {g : TG} {tt : TT} {te : TE} {use : Option (Value → Sem Unit)} {Qf : Value → Shared → Prop}
    (hc : X.calm = true) (hN : X.N.Nodup) (I : Inv X pins σ H s) (hi : PI X tg iter wi) (ok : BlkOk X.N X.env.scope scope own)
    (hg : ∀ (s : Shared) (H : Hp) (C : Addr) (cl : List (PySem.Str × Addr)) (fp : List Addr), PG (X.blk s H scope (compEnvC scope cl C X.env) fp) tg g) (ht : ∀ (s : Shared) (H : Hp) (C : Addr) (cl : List (PySem.Str × Addr)) (fp : List Addr), PTs (X.blk s H scope (compEnvC scope cl C X.env) fp) ifs tt)
    (he : ∀ (s : Shared) (H : Hp) (C : Addr) (cl : List (PySem.Str × Addr)) (fp : List Addr), PE (X.blk s H scope (compEnvC scope cl C X.env) fp) elt te) (hs : ∀ x, foldedSetIterable iter X.env x = pure x)
    (h : tScI X.w wi g tt te (own.map (·.2)) σ H Q)
    (hRR : ∀ D C s' m H', Inv X pins σ H' s' → Q (.ref D) H' → s'.heap.Ns C m → FpOk X pins H' C → compPost (model X.prog X.w) X.A X.xe use Qf (.ref D) C (.ok .next) s') :
    wpAny (model X.prog X.w) X.A (comprehension (.SetComp elt [⟨tg, iter, ifs, 0⟩] scope pos) scope X.env pos' (newSet (.type "set")) false (eval iter X.env) use) Qf X.xe s := by
  have hfree : ∀ y ∈ scope.names, y.2 = .free → ∃ c, X.env.cells.lookup y.1 = some c := fun y hy e => by
    rcases ok.free y hy e with k | k
    · exact I.ok.has _ (.inl k)
    · exact I.ok.has _ (.inr k)
  refine wpAny_comprehension_free (use := use) rfl hs (closure_ok hfree) ok.kind (fun y hy e => by rw [ok.uniq y hy, e])
    (thn (hi.run pins s σ H _ I h) fun xv s1 hx => thn hx fun itv s2 h2 => ?_)
  obtain ⟨it, fp, tn, J, H2, e, I2, T, st2, f2, q⟩ := h2
  subst e
  refine newSet_ok (newEnv_comp ?_)
  generalize hD : s2.heap.objs.size = D
  have hDn : H2 D = none := I2.hok.fresh (Nat.le_of_eq hD)
  obtain ⟨W, ⟨m0, w0⟩, turn⟩ := q D hDn
  -- the new list
  generalize hs3 : ({ s2 with heap := s2.heap.push { cls := .type "set", dict := none, data := .set #[] 0 (.fresh 0 0 (!X.w.params.followText "set-order")) } } : Shared) = s3
  have I3 : Inv X pins σ (upd H2 D (SetO X.w D (fun _ => false) 0)) s3 := by
    rw [← hs3]
    refine I2.laid (t' := s2.toks) (fun b o e => Heap.get?_push_of_some _ e) (Nat.le_of_eq hD) ?_
    rw [← hD]
    exact setO_new (setR_fresh X.w)
  have h3 : s3.heap = s2.heap.push { cls := .type "set", dict := none, data := .set #[] 0 (.fresh 0 0 (!X.w.params.followText "set-order")) } := by rw [← hs3]
  have sz : ∀ b ∈ fp, b < s2.heap.objs.size := fun b hb => by
    obtain ⟨o, e, _⟩ := T.obj _ _ st2 b hb
    exact Heap.lt_size e
  have f3 : ∀ b ∈ fp, FpOk X pins (upd H2 D (SetO X.w D (fun _ => false) 0)) b ∧ b < s3.heap.objs.size := fun b hb => by
    have hlt := sz b hb
    refine ⟨⟨?_, (f2 b hb).2⟩, by rw [h3, Heap.size_push]; exact Nat.lt_succ_of_lt hlt⟩
    rw [upd_ne (by rw [← hD]; exact Nat.ne_of_lt hlt)]
    exact (f2 b hb).1
  have st3 : tn 0 s3.heap := T.keep _ _ _ st2 fun b _ o e => by rw [h3]; exact Heap.get?_push_of_some _ e
  have I4 := block_start I3 ok hN f3
  have pg := hg s3 (upd H2 D (SetO X.w D (fun _ => false) 0)) s3.heap.objs.size (cellsFrom (s3.heap.objs.size + 1) scope.names (cloFrom X.env.cells scope.names [])) fp
  have pt := ht s3 (upd H2 D (SetO X.w D (fun _ => false) 0)) s3.heap.objs.size (cellsFrom (s3.heap.objs.size + 1) scope.names (cloFrom X.env.cells scope.names [])) fp
  have pe := he s3 (upd H2 D (SetO X.w D (fun _ => false) 0)) s3.heap.objs.size (cellsFrom (s3.heap.objs.size + 1) scope.names (cloFrom X.env.cells scope.names [])) fp
  show codeAny _ _ (.compStart (.SetComp elt [⟨tg, iter, ifs, 0⟩] scope pos) 0 (.ref it) (.ref D) (compEnvC scope (cellsFrom (s3.heap.objs.size + 1) scope.names (cloFrom X.env.cells scope.names [])) s3.heap.objs.size X.env)) (compPost (model X.prog X.w) X.A X.xe use Qf (.ref D) s3.heap.objs.size) { s3 with heap := pushCells (s3.heap.push { cls := .type "dict", data := .dict #[] }) scope.names }
  have nfp : ∀ b ∈ fp, (upd H2 D (SetO X.w D (fun _ => false) 0)) b = none := fun b hb => (f3 b hb).1.1
  generalize hce : compEnvC scope (cellsFrom (s3.heap.objs.size + 1) scope.names (cloFrom X.env.cells scope.names [])) s3.heap.objs.size X.env = ce at I4 pg pt pe ⊢
  have cL : ce.locals = s3.heap.objs.size := by subst hce; rfl
  generalize hH3 : upd H2 D (SetO X.w D (fun _ => false) 0) = H3 at I3 I4 pg pt pe w0 nfp f3
  generalize hs4 : ({ s3 with heap := pushCells (s3.heap.push { cls := .type "dict", data := .dict #[] }) scope.names } : Shared) = s4 at I4 ⊢
  have st4 : tn 0 s4.heap := T.keep _ _ _ st3 fun b _ o e => by rw [← hs4]; exact pushCells_keeps _ _ _ _ (Heap.get?_push_of_some _ e)
  have stat : ∀ {σ' : L2.St} {H' : Hp} {s' : Shared}, Inv (X.blk s3 H3 scope ce fp) [] σ' H' s' → (∀ b ∈ fp, H' b = none) → ∀ b ∈ fp, FpOk (X.blk s3 H3 scope ce fp) [] H' b := fun {σ' H' s'} I' hn b hb =>
    ⟨hn b hb, (I'.ok.exf b hb).1, I'.ok.exfs b hb, .inl hb, fun x c e => (I'.ok.exf b hb).2 x c e, fun p hp => absurd (show p ∈ ([] : List (Addr × Obj)) ++ [] from hp) (by simp)⟩
  have loop : codeAny (model X.prog X.w) X.A (.compLoop (.SetComp elt [⟨tg, iter, ifs, 0⟩] scope pos) 0 (.ref it) (.ref D) ce) (compPost (model X.prog X.w) X.A X.xe use Qf (.ref D) s3.heap.objs.size) s4 := by
    refine compLoopS_any (fun n s' => ∃ i H', Inv (X.blk s3 H3 scope ce fp) [] (wipe σ (own.map (·.2))) H' s' ∧ tn i s'.heap ∧ (∀ b ∈ fp, H' b = none) ∧ W i n H') ?_ m0 ⟨0, H3, I4, st4, nfp, w0⟩
    rintro n s5 ⟨i, H5, I5, st5, n5, w5⟩
    rcases turn i n H5 w5 with ⟨stop, qq⟩ | ⟨go, Nx, hNx, step⟩
    · have td := T.done (X.blk s3 H3 scope ce fp) rfl rfl rfl hc i [] s5 _ H5 (fun _ _ => False) I5 (stat I5 n5) st5 stop
      refine thnF td fun r s6 ⟨hr, I6⟩ => ?_
      subst hr
      -- back in the def's context
      have I7 : Inv X pins σ H5 s6 := I3.call' (ch := fp) I6.os I6.base I6.hok I6.bare fun b hb => ⟨(f3 b hb).1.2.2.2.1, (f3 b hb).1.2.1, (f3 b hb).1.2.2.2.2.1, (f3 b hb).1.2.2.2.2.2⟩
      have nC : H5 s3.heap.objs.size = none := by
        have z : H5 ce.locals = none := I6.free
        rw [cL] at z
        exact z
      obtain ⟨m, hn, _⟩ := I6.loc
      have hn : s6.heap.Ns ce.locals m := hn
      rw [cL] at hn
      exact hRR D s3.heap.objs.size s6 m H5 I7 qq hn (I3.fpOk (Nat.le_refl _) nC)
    · have ti := T.item (X.blk s3 H3 scope ce fp) rfl rfl rfl hc i [] s5 _ H5 (fun _ _ => False) I5 (stat I5 n5) st5 go
      refine thnF ti fun r s6 ⟨u, hr, h6⟩ => ?_
      subst hr
      refine thnF h6 fun _ s7 ⟨x, H7, I7, r7, y7, st7, n7⟩ => ?_
      have I7' := I7.pinned (stat I7 n7) (T.obj _ _ st7)
      refine thnF (pg.run _ s7 _ H7 x u _ I7' r7 (step x H7 y7)) fun _ s8 ⟨σ8, H8, I8, hw8, q8⟩ => ?_
      refine thnF (pt.run _ s8 σ8 H8 _ I8 q8) fun b s9 ⟨H9, I9, q9⟩ => ?_
      -- the turn's end
      have fin : ∀ {s' : Shared} {H' : Hp}, Inv (X.blk s3 H3 scope ce fp) ([] ++ pinsAt fp s7.heap) σ8 H' s' → Nx H' → ∃ m, m < n ∧ ∃ i H', Inv (X.blk s3 H3 scope ce fp) [] (wipe σ (own.map (·.2))) H' s' ∧ tn i s'.heap ∧ (∀ b ∈ fp, H' b = none) ∧ W i m H' := fun {s' H'} I' nx => by
        obtain ⟨m', hm, w'⟩ := hNx H' nx
        have pin' : ∀ b ∈ fp, ∀ o, s7.heap.get? b = some o → s'.heap.get? b = some o ∧ H' b = none := fun b hb o e =>
          let z := I'.pin (b, o) (List.mem_append_right _ (List.mem_append_right _ (mem_pinsAt hb e)))
          ⟨z.1, z.2.1⟩
        have hl : (wipe σ (own.map (·.2))).length = σ8.length := by rw [← hw8, wipe_length]
        refine ⟨m', hm, i + 1, H', (I'.unpinned (pins := [])).weak hl (fun j v e => ?_), T.keep _ _ _ st7 fun b hb o e => (pin' b hb o e).1, fun b hb => ?_, w'⟩
        · rw [← hw8] at e
          exact (wipe_some e).1
        · obtain ⟨o, e, _⟩ := T.obj _ _ st7 b hb
          exact (pin' b hb o e).2
      cases b with
      | false =>
        simp only [Bool.false_eq_true, if_false] at q9 ⊢
        exact fin I9 q9
      | true =>
        simp only [if_true] at q9 ⊢
        refine thnF (pe.run _ s9 σ8 H9 _ I9 q9) fun z s10 ⟨yv, H10, I10, r10, cb, S0, n0, ey, hD10, hz10, nx⟩ => ?_
        subst ey
        obtain ⟨tk, rfl⟩ := r10
        exact addI_ok (X := X.blk s3 H3 scope ce fp) I10 hD10 hz10 fun s11 I11 => fin I11 nx
  exact codeAny_compStart_set loop (T.self X.A 0 _ _ _ st4 loop)
/-- as a value -/
theorem pe_scI {elt tg iter : Expr} {ifs : List Expr} {scope : Scope} {own : List (PySem.Str × Nat)} {pos : Pos} {wi : TI} {g : TG} {tt : TT} {te : TE} (hc : X.calm = true) (hN : X.N.Nodup) (hi : PI X tg iter wi) (ok : BlkOk X.N X.env.scope scope own)
    (hg : ∀ (s : Shared) (H : Hp) (C : Addr) (cl : List (PySem.Str × Addr)) (fp : List Addr), PG (X.blk s H scope (compEnvC scope cl C X.env) fp) tg g) (ht : ∀ (s : Shared) (H : Hp) (C : Addr) (cl : List (PySem.Str × Addr)) (fp : List Addr), PTs (X.blk s H scope (compEnvC scope cl C X.env) fp) ifs tt)
    (he : ∀ (s : Shared) (H : Hp) (C : Addr) (cl : List (PySem.Str × Addr)) (fp : List Addr), PE (X.blk s H scope (compEnvC scope cl C X.env) fp) elt te) (hs : ∀ x, foldedSetIterable iter X.env x = pure x := by intro _; rfl) :
    PE X (.SetComp elt [⟨tg, iter, ifs, 0⟩] scope pos) (tScI X.w wi g tt te (own.map (·.2))) := by
  refine ⟨fun pins s σ H Q I h => ?_⟩
  rw [eval_SetComp]
  refine sc_coreI hc hN I hi ok hg ht he hs h fun D C s' m H' I' q hn f => ⟨m, hn, fun h'' sb => ?_⟩
  obtain ⟨f0, f1, f2, f3, f4, f5⟩ := f
  exact ⟨.ref D, H', I'.turned (t' := s'.toks) (fun b o hb e => (sb.2 b hb).trans e) f0 f1 f3 f4 f5, rfl, q⟩
/-- over a list that the block leaves as it is -/
theorem sc_listI {w : World} {K : PySem.W.Frag} {a : Addr} {xs : List V} {g : TG} {tt : TT} {te : TE} {vs : List Nat} {σ : L2.St} {H1 : Hp} {D : Addr} {Qd : Hp → Prop} (Pv : Nat → Hp → Prop) (h0 : Pv 0 (upd H1 D (SetO w D (fun _ => false) 0))) (hl : ∀ i H, i ≤ xs.length → Pv i H → SqL K H a xs)
    (hs : ∀ i x H, xs[i]? = some x → Pv i H → g x (wipe σ vs) H fun σ2 H2 => wipe σ2 vs = wipe σ vs ∧ tt σ2 H2 fun b H3 =>
      if b = true then te σ2 H3 fun y H4 => ∃ (c : Int) (S : Int → Bool) (n : Nat), y = .int c ∧ H4 D = some (SetO w D S n) ∧ n + 1 < scanBound ∧ Pv (i + 1) (upd H4 D (SetO w D (fun j => S j || decide (j = c)) (if S c = true then n else n + 1))) else Pv (i + 1) H3) (hd : ∀ H, Pv xs.length H → Qd H) :
    ∃ W : Nat → Nat → Hp → Prop, (∃ m, W 0 m (upd H1 D (SetO w D (fun _ => false) 0))) ∧ ∀ i m H, W i m H →
      ((Itl K a).stop i H ∧ Qd H) ∨ ((Itl K a).go i H ∧ ∃ Nx : Hp → Prop, (∀ H', Nx H' → ∃ m', m' < m ∧ W (i + 1) m' H') ∧ ∀ x H', (Itl K a).yld i H x H' → g x (wipe σ vs) H' fun σ2 H2 => wipe σ2 vs = wipe σ vs ∧ tt σ2 H2 fun b H3 =>
        if b = true then te σ2 H3 fun y H4 => ∃ (c : Int) (S : Int → Bool) (n : Nat), y = .int c ∧ H4 D = some (SetO w D S n) ∧ n + 1 < scanBound ∧ Nx (upd H4 D (SetO w D (fun j => S j || decide (j = c)) (if S c = true then n else n + 1))) else Nx H3) := by
  refine ⟨fun i m H => m = xs.length - i ∧ i ≤ xs.length ∧ Pv i H, ⟨xs.length, by simp, Nat.zero_le _, h0⟩, ?_⟩
  rintro i m H ⟨rfl, hi, p⟩
  have q := hl i H hi p
  by_cases hlt : i < xs.length
  · refine .inr ⟨⟨xs, xs[i], q, by simp [hlt]⟩, Pv (i + 1), fun H' p' => ⟨xs.length - (i + 1), by omega, rfl, hlt, p'⟩, fun x H' y => ?_⟩
    obtain ⟨e, y⟩ := y
    subst e
    exact hs i x _ (y xs q) p
  · have e : i = xs.length := by omega
    subst e
    exact .inl ⟨⟨xs, q, Nat.le_refl _⟩, hd H p⟩
/-- over a tuple that the block leaves as it is -/
theorem sc_tupI {w : World} {K : PySem.W.Frag} {a : Addr} {xs : List V} {g : TG} {tt : TT} {te : TE} {vs : List Nat} {σ : L2.St} {H1 : Hp} {D : Addr} {Qd : Hp → Prop} (Pv : Nat → Hp → Prop) (h0 : Pv 0 (upd H1 D (SetO w D (fun _ => false) 0))) (hl : ∀ i H, i ≤ xs.length → Pv i H → SqT K H a xs)
    (hs : ∀ i x H, xs[i]? = some x → Pv i H → g x (wipe σ vs) H fun σ2 H2 => wipe σ2 vs = wipe σ vs ∧ tt σ2 H2 fun b H3 =>
      if b = true then te σ2 H3 fun y H4 => ∃ (c : Int) (S : Int → Bool) (n : Nat), y = .int c ∧ H4 D = some (SetO w D S n) ∧ n + 1 < scanBound ∧ Pv (i + 1) (upd H4 D (SetO w D (fun j => S j || decide (j = c)) (if S c = true then n else n + 1))) else Pv (i + 1) H3) (hd : ∀ H, Pv xs.length H → Qd H) :
    ∃ W : Nat → Nat → Hp → Prop, (∃ m, W 0 m (upd H1 D (SetO w D (fun _ => false) 0))) ∧ ∀ i m H, W i m H →
      ((Itt K a).stop i H ∧ Qd H) ∨ ((Itt K a).go i H ∧ ∃ Nx : Hp → Prop, (∀ H', Nx H' → ∃ m', m' < m ∧ W (i + 1) m' H') ∧ ∀ x H', (Itt K a).yld i H x H' → g x (wipe σ vs) H' fun σ2 H2 => wipe σ2 vs = wipe σ vs ∧ tt σ2 H2 fun b H3 =>
        if b = true then te σ2 H3 fun y H4 => ∃ (c : Int) (S : Int → Bool) (n : Nat), y = .int c ∧ H4 D = some (SetO w D S n) ∧ n + 1 < scanBound ∧ Nx (upd H4 D (SetO w D (fun j => S j || decide (j = c)) (if S c = true then n else n + 1))) else Nx H3) := by
  refine ⟨fun i m H => m = xs.length - i ∧ i ≤ xs.length ∧ Pv i H, ⟨xs.length, by simp, Nat.zero_le _, h0⟩, ?_⟩
  rintro i m H ⟨rfl, hi, p⟩
  have q := hl i H hi p
  by_cases hlt : i < xs.length
  · refine .inr ⟨⟨xs, xs[i], q, by simp [hlt]⟩, Pv (i + 1), fun H' p' => ⟨xs.length - (i + 1), by omega, rfl, hlt, p'⟩, fun x H' y => ?_⟩
    obtain ⟨e, y⟩ := y
    subst e
    exact hs i x _ (y xs q) p
  · have e : i = xs.length := by omega
    subst e
    exact .inl ⟨⟨xs, q, Nat.le_refl _⟩, hd H p⟩
/-- sorted(set) -/
theorem sorted_setA {P : Program} {w : World} {A : Around} {E : Value → Shared → Prop} {s : Shared} {a : Addr} {S : Int → Bool} {n : Nat} {Q : Value → Shared → Prop} (R : SetR w s.heap a S n) (hh : A.handled = none)
    (hQ : ∀ s' p (out : List Value) (c : Nat) (ns : List Int), (∀ b o, s.heap.get? b = some o → s'.heap.get? b = some o) → s'.gens = s.gens → s'.os = s.os → s.heap.objs.size ≤ p →
      s'.heap.get? p = some (seqObj "list" out.toArray c) → IntsAre out ns → ns.Pairwise (· < ·) → (∀ k, k ∈ ns ↔ S k = true) → ns.length = n → Q (.ref p) s') :
    wpAny (model P w) A (call (.builtin "sorted") [.ref a]) Q E s := by
  obtain ⟨o, es, ep, t, ho, hex, hd, g, nd, hm, hb, hf, hn, hr, hl⟩ := R
  have hb2 : n < 4096 := by rw [← hn]; exact hb
  refine Calls.call_function_entry kind_sorted plain_sorted entry_sorted (args_sorted1 _) ?_
  unfold Builtin.«sorted»
  refine wpAny_bind (m := checkCount "sorted" 1 1 _) (wpAny_pure ?_)
  refine wpAny_bind (collect_set (A := A.in1) hh ⟨o, ho, hex.1, hd⟩ hf hb hr hl fun s1 vs k1 hz g1 o1 pm => ?_)
  have hvl : vs.length = n := by rw [pm.length_eq, List.length_map, Array.length_toList]; exact hn
  have hI : IntsAre vs (vs.map Builtin.Re.reRawOf) := ints_of vs fun v hv => by
    obtain ⟨e, he, q⟩ := List.mem_map.mp (pm.mem_iff.mp hv)
    obtain ⟨k, tk, h1, _⟩ := g e he
    exact ⟨k, tk, by rw [← q]; exact h1⟩
  have pk : (vs.map Builtin.Re.reRawOf).Perm (es.toList.map keyOf) := by
    have q := pm.map Builtin.Re.reRawOf
    rw [List.map_map] at q
    exact q
  have hvz : vs.length ≤ sizeLine := by rw [hvl, sizeLine_eq]; omega
  refine wpAny_bind (wpAny_newList ?_ hvz)
  have hoL : (s1.heap.push (seqObj "list" vs.toArray 0)).get? s1.heap.objs.size = some (seqObj "list" vs.toArray 0) := Heap.get?_push_size _ rfl
  refine wpAny_bind (wpAny_holding (wpAny_call_entry slot_list_sort ⟨_, hoL, rfl⟩ entry_list_sort (SrtO.list_sort_ord SrtO.swo_int hoL hvz (fun h2 => SrtO.ints_sortable hI h2) fun out h1 h2 => ⟨_, rfl, ?_⟩) (args_list_sort _)))
  obtain ⟨a1, a2, a3⟩ := SrtO.ints_out hI h1 h2
  obtain ⟨c, hc⟩ := sortedHeap_at (vs := vs) (out := out.toArray) hoL
  have pn : (out.map SrtO.iv).Perm (es.toList.map keyOf) := a2.trans pk
  refine wpAny_pure ⟨_, rfl, hQ _ s1.heap.objs.size out c _ (fun b u e => ?_) g1 o1 hz hc a1 (lt_of_le_nodup _ a3 (pn.nodup_iff.mpr nd)) (fun k => by rw [pn.mem_iff, ← hm k]) ?_⟩
  · have q := k1 b u e
    have hlt := Heap.lt_size q
    show (sortedHeap (s1.heap.push (seqObj "list" vs.toArray 0)) s1.heap.objs.size vs out.toArray).get? b = some u
    rw [sortedHeap_old (Nat.ne_of_lt hlt) (by rw [size_push']; exact Nat.lt_succ_of_lt hlt)]
    exact Heap.get?_push_of_some _ q
  · rw [pn.length_eq, List.length_map, Array.length_toList]; exact hn
def rSortedSetA (w : World) : List V → Hp → VK → Prop := fun vs H Q => ∃ (a : Addr) (S : Int → Bool) (n : Nat), vs = [V.ref a] ∧ H a = some (SetO w a S n) ∧ n < 4096 ∧
  ∀ (ns : List Int) (p : Addr), ns.Pairwise (· < ·) → (∀ k : Int, k ∈ ns ↔ S k = true) → ns.length = n → H p = none → Q (.ref p) (upd H p (.lst (ns.map V.int)))
theorem cr_sortedSetA (hc : X.calm = true) : CallR X (.builtin "sorted") (rSortedSetA X.w) := by
  intro pins s σ H vs us Q I r h
  obtain ⟨a, S, n, rfl, ha, h4, q⟩ := h
  have R := setO_get I ha
  rw [Vals.ref1 r]
  refine sorted_setA R (I.ok.hd hc) fun s' p out c ns k g o hp hg hi hs hm hl => ?_
  have hlen : (ns.map V.int).length ≤ sizeLine := by rw [List.length_map, hl, sizeLine_eq]; omega
  have hn : H p = none := I.hok.fresh hp
  have J : Inv X pins σ (upd H p (.lst (ns.map V.int))) { s with heap := s'.heap, gens := s'.gens, drawn := s'.drawn, toks := s'.toks } :=
    I.call (ch := []) (Un.laid k hp hn) (I.hok.laid k hp ⟨hlen, out, c, vals_of_ints hi, hg⟩) (by rw [g]; exact I.bare) (fun _ z => nomatch z)
  have e : s' = { s with heap := s'.heap, gens := s'.gens, drawn := s'.drawn, toks := s'.toks } := by
    cases s'
    cases s
    cases o
    rfl
  rw [e]
  exact ⟨.ref p, _, J, rfl, q ns p hs hm hl hn⟩
end
end Sz
/-! a <= b <= c <= .. as a test, of any length -/
namespace Sz
open PySem PySem.Spec PyProof.Rows L2
/-- len within a comprehension -/
def rLenS (K : PySem.W.Frag) : List V → Hp → VK → Prop := fun xs H Q => ∃ p ys, xs = [V.ref p] ∧ (SqL K H p ys ∨ SqT K H p ys) ∧ Q (V.int (ys.length : Nat)) H
abbrev TL := V → L2.St → Hp → (Bool → Hp → Prop) → Prop
section
variable {X : Cx} {a b c : Expr} {cs : List Expr} {op op' : CmpOp} {ops : List CmpOp} {ta tb : TE} {r : R2} {t : TL} {pos : Pos}
/-- the rest of a chain, behind a value -/
def PL (X : Cx) (ops : List CmpOp) (cs : List Expr) (t : TL) : Prop :=
  ∀ (pos : Pos) (pins : List (Addr × Obj)) (s : Shared) (σ : L2.St) (H : Hp) (x : V) (v : Value) (Q : Bool → Hp → Prop), Inv X pins σ H s → RelV x v → t x σ H Q →
    wpAny (model X.prog X.w) X.A (testChain pos v ops (evalEach cs X.env)) (fun k s' => ∃ H', Inv X pins σ H' s' ∧ Q k H') X.xe s
def tlLast (r : R2) (tb : TE) : TL := fun x σ H Q => tb σ H fun y H2 => r x y H2 fun z H3 => ∃ k, z = .bl k ∧ Q k H3
def tlMore (r : R2) (tb : TE) (t : TL) : TL := fun x σ H Q => tb σ H fun y H2 => r x y H2 fun z H3 => ∃ k, z = .bl k ∧ if k = true then t y σ H3 Q else Q false H3
theorem pl_last (ho : OpR X (compareOp op) r) (hb : PE X b tb) : PL X [op] [b] (tlLast r tb) := by
  intro pos pins s σ H x v Q I rx h
  refine test_last (thn (hb.run pins s σ H _ I h) fun u s2 ⟨y, H2, I2, r2, q2⟩ => thn (ho pins s2 σ H2 x y v u _ I2 rx r2 q2) fun d s3 ⟨z, H3, I3, r3, k, e, q3⟩ => ?_)
  subst e
  cases r3
  exact wpAny_truthy_bool ⟨H3, I3, q3⟩
theorem pl_more (ho : OpR X (compareOp op) r) (hb : PE X b tb) (hr : PL X (op' :: ops) (c :: cs) t) : PL X (op :: op' :: ops) (b :: c :: cs) (tlMore r tb t) := by
  intro pos pins s σ H x v Q I rx h
  refine test_link (thn (hb.run pins s σ H _ I h) fun u s2 ⟨y, H2, I2, r2, q2⟩ => thn (ho pins s2 σ H2 x y v u _ I2 rx r2 q2) fun d s3 ⟨z, H3, I3, r3, k, e, q3⟩ => ?_)
  subst e
  cases r3
  refine wpAny_truthy_bool ?_
  cases k with
  | false => exact ite_ff ⟨H3, I3, q3⟩
  | true => exact ite_tt (hr pos pins s3 σ H3 y u Q I3 r2 q3)
def tChs (ta : TE) (t : TL) : TT := fun σ H Q => ta σ H fun x H1 => t x σ H1 Q
theorem pt_chains (ha : PE X a ta) (hr : PL X (op :: op' :: ops) (b :: c :: cs) t) (hm : lastMarks (op :: op' :: ops) (b :: c :: cs) = false := by with_unfolding_all rfl) :
    PT X (.Compare a (op :: op' :: ops) (b :: c :: cs) pos) (tChs ta t) := by
  refine ⟨fun pins s σ H Q I h => ?_⟩
  exact isTrue_chain (thn (ha.run pins s σ H _ I h) fun v s1 ⟨x, H1, I1, r1, q1⟩ => hr pos pins s1 σ H1 x v Q I1 r1 q1) hm
end
end Sz
/-! == by an own __eq__ that is promised to say True -/
namespace Sz
open PySem PySem.Spec PyProof.Rows L2
section
variable {X : Cx} {CX : CXT} {k : Nat} {C : Str} {ps : List Str} {R : Addr → Addr → Hp → Prop} {E : XK}
theorem rcG_insP (G : PromM X.prog X.w X.K X.mg X.base CX k C "__eq__" ps (spEq R)) (hx : Passes CX X E) : RcG X k (DIns (He.ga X.K C) R) := by
  obtain ⟨fd, F, b⟩ := G.ex
  exact rcG_ins F G.me.at_ G.me.fn b hx
theorem eqG_insP (G : PromM X.prog X.w X.K X.mg X.base CX k C "__eq__" ps (spEq R)) (hx : Passes CX X E) : EqG X k (DIns (He.ga X.K C) R) := by
  obtain ⟨fd, F, b⟩ := G.ex
  exact eqG_ins F G.me.at_ G.me.fn b hx
end
end Sz
/-! lists or tuples walked, a class with plain parameters, two tuples zipped -/
namespace Sz
open PySem PySem.Spec PyProof.Rows L2
section
variable {X : Cx} {tg l : Expr} {tl : TE}
/-- for x in s, s a list or a tuple -/
theorem pi_seq (hl : PE X l tl) : PI X tg l (fun σ H R => iList X.K tl σ H R ∨ iTup X.K tl σ H R) := by
  refine ⟨fun pins s σ H R I h => ?_⟩
  rcases h with h | h
  · exact (pi_list (tg := tg) hl).run pins s σ H R I h
  · exact (pi_tup (tg := tg) hl).run pins s σ H R I h
end
section
variable {K : PySem.W.Frag} {a b : Addr} {xs ys : List V} {n : Nat}
theorem walk_zipT (hn : n = min xs.length ys.length) : Walk (RZ.ItzT K a b) n (fun H => SqT K H a xs ∧ SqT K H b ys) (YPair (fun i => xs[i]?) (fun i => ys[i]?)) := by
  refine ⟨fun i H hi g => ?_, fun H g => ⟨xs, ys, g.1, g.2, by omega⟩, fun i H x H' hi g y => ?_⟩
  · have h1 : i < xs.length := by omega
    have h2 : i < ys.length := by omega
    exact ⟨xs, ys, xs[i], ys[i], g.1, g.2, List.getElem?_eq_getElem h1, List.getElem?_eq_getElem h2⟩
  · obtain ⟨T, x1, y1, e1, e2, e3, e4, e5⟩ := y
    exact ⟨T, x1, y1, e1, e2, e3, e4 xs g.1, e5 ys g.2⟩
end
section
variable {P : Program} {w : World} {K : PySem.W.Frag} {mg : Str → Option Value} {base : Heap}
/-- a class whose __init__ takes its parameters one by one -/
theorem PromC.plain {C q : Str} {st : Stmt} {N ps : List Str} {sp sp0 : Sp} {k : Nat} (mk : Mk K (He.ga K C) (He.ma K (He.ga K C) "__init__")) (hm : mg C = some (.ref (He.ga K C))) (D : DefAtM K C "__init__" q st) (S : FnScope N ps (defScope st))
    (len : ∀ vs H Q E, sp0 vs H Q E → vs.length = ps.length)
    (hb : ∀ (kV doc pm : Value) (an : Option Addr) (cdv ct : Value) (us : List Value), us.length = ps.length → bindArgs (PySem.W.fnOf "__init__" q (defArgs st) (defBody st) (defScope st) .none kV doc pm an cdv ct) ⟨us, []⟩ = pure (ps.zip us))
    (hbody : ∀ (f : Addr) (cdv : Value) (A : Around) (outer : List Env) (s : Shared) (H : Hp) (vs : List V) (Q : VK) (E : XK), Room k (A.deeper (envOfC q (defScope st) s.heap.objs.size f cdv)) → sp0 vs H Q E →
      ∃ t, PSs (cxOf CX0 P w K mg base N q (defScope st) f cdv A outer s H E).nox (defBody st) t ∧ t { nx := fun _ H' => Q .non H', rt := Q } (start N vs) H)
    (hsp : ∀ vs H Q E, sp vs H Q E → ∀ x dx, H x = none → H dx = none → dx ≠ x → sp0 (.ref x :: vs) (upd (upd H dx (.own x)) x (.ins (He.ga K C) dx [])) (fun u H2 => u = .non ∧ Q (.ref x) H2) E) :
    PromC P w K mg base CX0 (k + 1) C sp := by
  obtain ⟨fd, F⟩ := D
  have F1 : FnOk P w K mg base CX0 (k + 1) (He.ma K (He.ga K C) "__init__") fd ps sp0 := F.ok S len (fun cdv A outer s H vs Q E hr hs => by
    obtain ⟨t, h1, h2⟩ := hbody _ cdv A outer s H vs Q E hr hs
    exact ⟨t, h1.nox, h2⟩)
  refine ⟨mk, hm, _, F1.raw (F.bindsN hb) .nil, fun vs H Q E hs x dx hx hdx ne => ?_⟩
  rw [List.append_nil]
  exact hsp vs H Q E hs x dx hx hdx ne
end
end Sz
/-! errors: defs that raise, a try with a tuple of classes, a def that looks at the error that is handled -/
namespace Sz
open PySem PySem.Spec PyProof.Rows L2
section
variable {P : Program} {w : World} {K : PySem.W.Frag} {mg : Str → Option Value} {base : Heap}
/-- a def that may raise -/
theorem Prom.ofX {x : Str} {st : Stmt} {ps N : List Str} {sp : Sp} {k : Nat} (D : DefAt K mg x st) (S : FnScope N ps (defScope st)) (len : ∀ vs H Q E, sp vs H Q E → vs.length = ps.length)
    (hb : ∀ (kV doc pm : Value) (an : Option Addr) (cdv ct : Value) (us : List Value), us.length = ps.length → bindArgs (PySem.W.fnOf x x (defArgs st) (defBody st) (defScope st) .none kV doc pm an cdv ct) ⟨us, []⟩ = pure (ps.zip us))
    (hbody : ∀ (f : Addr) (cdv : Value) (A : Around) (outer : List Env) (s : Shared) (H : Hp) (vs : List V) (Q : VK) (E : XK), Room k (A.deeper (envOfC x (defScope st) s.heap.objs.size f cdv)) → sp vs H Q E →
      ∃ t, PSs (cxOf (L2.CX P w) P w K mg base N x (defScope st) f cdv A outer s H E) (defBody st) t ∧ t { nx := fun _ H' => Q .non H', rt := Q } (start N vs) H) :
    Prom P w K mg base (L2.CX P w) (k + 1) x st ps sp := by
  obtain ⟨f, fd, F, hm⟩ := D
  exact ⟨f, fd, F.ok S len (fun cdv A outer s H vs Q E hr hs => hbody f cdv A outer s H vs Q E hr hs), hm, F, F.bindsN hb⟩
end
/-! ### a def that is handed the error, called in the except suite: p, the error's address and object -/
structure FnP (P : Program) (w : World) (K : PySem.W.Frag) (mg : Str → Option Value) (base : Heap) (k : Nat) (f : Addr) (fd : FuncData) (ps : List Str) (sp : Addr × Obj → Sp) : Prop where
  len : ∀ p vs H Q E, sp p vs H Q E → vs.length = ps.length
  run : ∀ (A : Around) (outer : List Env) (s : Shared) (H : Hp) (args : Args) (us : List Value) (vs : List V) (Q : VK) (E : XK) (p : Addr × Obj), L2H.RoomH k A → A.guards = some [] → L2H.PinOk outer H s p → Env0 P w K mg base A outer s H →
    BindsTo s fd args (ps.zip us) → Vals vs us → sp p vs H Q E → codeAny (model P w) A (.call (.ref f) args) (CR CX0 outer P w H s Q E) s
theorem fnP_of {P : Program} {w : World} {K : PySem.W.Frag} {mg : Str → Option Value} {base : Heap} {k : Nat} {f : Addr} {x q : Str} {pr : Arguments} {bd : List Stmt} {sc : Scope} {dvs : List V} {kws : List (Str × V)} {fd : FuncData} {N ps : List Str} {sp : Addr × Obj → Sp}
    (F : FunD K x q pr bd sc dvs kws f fd) (S : FnScope N ps sc) (len : ∀ p vs H Q E, sp p vs H Q E → vs.length = ps.length)
    (hbody : ∀ (cdv : Value) (A : Around) (outer : List Env) (s : Shared) (H : Hp) (vs : List V) (Q : VK) (E : XK) (p : Addr × Obj), L2H.RoomH k (A.deeper (envOfC q sc s.heap.objs.size f cdv)) → (A.deeper (envOfC q sc s.heap.objs.size f cdv)).guards = some [] → sp p vs H Q E →
      ∃ t, PSs (L2H.cxH CX0 P w K mg base N q sc f cdv A outer s H E p).nox bd t ∧ t { nx := fun _ H' => Q .non H', rt := Q } (start N vs) H) : FnP P w K mg base (k + 1) f fd ps sp := by
  obtain ⟨c1, c2, c3, c4, c5, c6, c7, cdv, c9, c10, rfl, look, code, _, _⟩ := F.ex
  refine ⟨len, fun A outer s H args us vs Q E p room gd pin e0 hbind rel want => ?_⟩
  have old : ∀ b o, base.get? b = some o → s.heap.get? b = some o := fun b o e => (e0.bs b o e).1
  have inK : K.In s.heap := e0.mod.kin.keeps old
  have kinds : ∀ y ∈ ps.zip us, sc.names.lookup y.1 = some .local ∨ (sc.names.lookup y.1 = some .cell ∧ ((cellsFrom (s.heap.objs.size + 1) sc.names []).lookup y.1).isSome = true) := by
    rintro ⟨n, v⟩ hy
    have hm : n ∈ ps := (List.of_mem_zip hy).1
    cases S.par n hm with
    | inl z => exact Or.inl z
    | inr z => exact Or.inr ⟨z, PySem.W.cellsFrom_some _ _ _ (.inl z)⟩
  obtain ⟨t, dt, rt⟩ := hbody cdv A outer s H vs Q E p (room.deeper _) gd want
  have dt := dt.nox
  refine codeAny_call_function room.depth (inK _ _ look) rfl S.co S.gen rfl (PySem.W.codeRec_of inK code) ?_
  refine hbind _ _ _ _ (wpAny_newFunctionEnv_cells S.kind kinds ?_)
  rintro _ rfl s1 ic
  refine ⟨(e0.mod.nolimit.keeps old).keeps ic.toInCall.keep, codeAny_func ?_⟩
  refine wpAny_mono (dt.run [] s1 (start N vs) H _ (L2H.inv_startH S pin e0 (len _ _ _ _ _ want) rel ic) rt) ?_ (fun _ _ z => z)
  intro fl s' hs
  cases fl with
  | ret u => exact let ⟨v, _, H', J, rv, qv⟩ := hs; ⟨v, H', J.os, J.bare, J.base, J.hok, rv, qv⟩
  | next => exact let ⟨_, H', J, qv⟩ := hs; ⟨.non, H', J.os, J.bare, J.base, J.hok, rfl, qv⟩
  | brk => exact let ⟨_, _, _, qv⟩ := hs; False.elim qv
  | cont => exact let ⟨_, _, _, qv⟩ := hs; False.elim qv
/-- the def named x keeps the promise sp of the error at p -/
structure PromP (P : Program) (w : World) (K : PySem.W.Frag) (mg : Str → Option Value) (base : Heap) (k : Nat) (x : Str) (st : Stmt) (ps : List Str) (sp : Addr × Obj → Sp) : Prop where
  ex : ∃ f fd, FnP P w K mg base k f fd ps sp ∧ mg x = some (.ref f) ∧ FunD K x x (defArgs st) (defBody st) (defScope st) [] [] f fd ∧ Binds K fd ps []
theorem PromP.of {P : Program} {w : World} {K : PySem.W.Frag} {mg : Str → Option Value} {base : Heap} {x : Str} {st : Stmt} {ps N : List Str} {sp : Addr × Obj → Sp} {k : Nat} (D : DefAt K mg x st) (S : FnScope N ps (defScope st)) (len : ∀ p vs H Q E, sp p vs H Q E → vs.length = ps.length)
    (hb : ∀ (kV doc pm : Value) (an : Option Addr) (cdv ct : Value) (us : List Value), us.length = ps.length → bindArgs (PySem.W.fnOf x x (defArgs st) (defBody st) (defScope st) .none kV doc pm an cdv ct) ⟨us, []⟩ = pure (ps.zip us))
    (hbody : ∀ (f : Addr) (cdv : Value) (A : Around) (outer : List Env) (s : Shared) (H : Hp) (vs : List V) (Q : VK) (E : XK) (p : Addr × Obj), L2H.RoomH k (A.deeper (envOfC x (defScope st) s.heap.objs.size f cdv)) → (A.deeper (envOfC x (defScope st) s.heap.objs.size f cdv)).guards = some [] → sp p vs H Q E →
      ∃ t, PSs (L2H.cxH CX0 P w K mg base N x (defScope st) f cdv A outer s H E p).nox (defBody st) t ∧ t { nx := fun _ H' => Q .non H', rt := Q } (start N vs) H) :
    PromP P w K mg base (k + 1) x st ps sp := by
  obtain ⟨f, fd, F, hm⟩ := D
  exact ⟨f, fd, fnP_of F S len (fun cdv A outer s H vs Q E p hr hg hs => hbody f cdv A outer s H vs Q E p hr hg hs), hm, F, F.bindsN hb⟩
section
variable {X : Cx} {k : Nat} {x : Str} {st : Stmt} {ps : List Str} {sp : Addr × Obj → Sp} {e : Expr} {es : List Expr} {t : TA} {p pos : Pos} {a : Addr} {oe : Obj} {pn : List (Addr × Obj)}
/-- f(..) in the suite that handles the error at a -/
theorem pe_callE (G : PromP X.prog X.w X.K X.mg X.base k x st ps sp) (gd : X.A.guards = some []) (hr : L2H.RoomH k X.A) (hg : Gl X x) (hs : X.stack = X.env :: X.outer) (ha : PA (X.suite a ((a, oe) :: pn)) (e :: es) t)
    (hdb : (x == ("__debug__" : Str)) = false := by decide) (he : starEach (e :: es) X.env = (false, eval e X.env) :: starEach es X.env := by rfl) (hpl : (backTo pos (starEach es X.env)).any (·.1) = false := by rfl) :
    PE (X.suite a ((a, oe) :: pn)) (.Call (.Name x p) (e :: es) [] pos) (tCall (sp (a, oe)) [] E0 t) := by
  obtain ⟨f, fd, F, hm, D, hb⟩ := G.ex
  constructor
  intro pins s σ H Q I h
  refine wpAny_Call_Name_kw (ld_glob I hg hm (PySem.W.callWith_K (h₀ := X.base) I.ok.mod.kin D.kp (thn (ha.run pos pins s σ H _ I h) ?_) he hpl) hdb)
  rintro us s1 ⟨vs, H1, I1, rel, want⟩
  have pin : L2H.PinOk X.stack H1 s1 (a, oe) := by
    obtain ⟨p1, p2, p3, p4, p5⟩ := I1.pin (a, oe) (List.mem_append_left _ (List.mem_cons_self ..))
    refine ⟨p1, p2, fun z => ?_, p5⟩
    rw [hs] at z
    obtain ⟨en, hen, q⟩ := List.mem_filterMap.mp z
    rcases List.mem_cons.mp hen with z | z
    · subst z
      have nf := I1.ok.stk
      rcases nf with nf | ⟨_, nf⟩
      · have nf : X.stack = X.outer := nf
        rw [hs] at nf
        exact absurd (congrArg List.length nf) (by simp)
      · have nf : X.env.frame = some X.env.locals := nf
        rw [nf] at q
        exact p3 (Option.some.inj q).symm
    · exact p4 (List.mem_filterMap.mpr ⟨en, z, q⟩)
  refine ⟨I1.kIn, wpAny_call (codeAny_mono (F.run (X.A.mark (some (.ref a))) X.stack s1 H1 ⟨us, []⟩ (us ++ []) (vs ++ []) Q E0 (a, oe) ⟨hr.dp, hr.un⟩ gd pin I1.env0 (hb s1 us I1.kIn ?_) (rel.append .nil) want) ?_)⟩
  · rw [← (rel.append Paired.nil).length]
    exact F.len _ _ _ _ _ want
  · intro r s' hq
    cases r with
    | error z => exact False.elim hq
    | ok fl =>
      cases fl with
      | ret u => exact I1.after hq
      | next => exact False.elim hq
      | brk => exact False.elim hq
      | cont => exact False.elim hq
end
/-! ### except clauses with names, by a class or by three of them -/
/-- what the test of a clause does: nothing but new objects, and the word whether the error is of one of these classes -/
def TestOk (X : Cx) (t : Expr) (cs : List Value) : Prop := ∀ (a : Addr) (oe : Obj) (pn pins : List (Addr × Obj)) (s : Shared) (σ : L2.St) (H : Hp) (b : Bool) (Q : Bool → Shared → Prop) (E : Value → Shared → Prop),
  Inv (X.suite a ((a, oe) :: pn)) pins σ H s → PySem.W.exmAny X.K oe.cls cs = some b → (∀ h', (∀ c o, s.heap.get? c = some o → h'.get? c = some o) → Q b { s with heap := h' }) →
  wpAny (model X.prog X.w) (X.A.mark (some (.ref a))) (eval t X.env) (fun c s1 => wpAny (model X.prog X.w) (X.A.mark (some (.ref a))) (excMatches (.ref a) c) Q E s1) E s
theorem exmAny_one {K : PySem.W.Frag} {cls c : Value} {b : Bool} (h : PySem.W.exmAny K cls [c] = some b) : PySem.W.exmOne K cls c = some b := by
  obtain ⟨b1, d1, e1, e2, e3⟩ := PySem.W.exmAny_cons h
  have e2 : some false = some d1 := e2
  cases e2
  rw [e1, e3, Bool.or_false]
section
variable {X : Cx}
theorem looks_cls {a : Addr} {oe : Obj} {pn pins : List (Addr × Obj)} {s : Shared} {σ : L2.St} {H : Hp} (I : Inv (X.suite a ((a, oe) :: pn)) pins σ H s) : PySem.W.Looks (model X.prog X.w) s.heap (typeOf (.ref a)) oe.cls := fun A Q E s' k q =>
  wpAny_typeOf_ref (k _ _ (I.pin (a, oe) (List.mem_append_left _ (List.mem_cons_self ..))).1) q
theorem test_name {x : Str} {c : Value} {np : Pos} (hg : Gl X x) (hm : X.mg x = some c) (hd : (x == ("__debug__" : Str)) = false := by decide) : TestOk X (.Name x np) [c] := fun a oe pn pins s σ H b Q E I hx k => by
  refine ld_glob I hg hm ?_ hd
  exact (PySem.W.exm_one (M := model X.prog X.w) I.kIn (looks_cls I) (exmAny_one hx)).here (k s.heap fun _ _ z => z)
theorem test_tup {x y z : Str} {c1 c2 c3 : Value} {p1 p2 p3 tp : Pos} {e1} (g1 : Gl X x) (g2 : Gl X y) (g3 : Gl X z) (m1 : X.mg x = some c1) (m2 : X.mg y = some c2) (m3 : X.mg z = some c3)
    (d1 : (x == ("__debug__" : Str)) = false := by decide) (d2 : (y == ("__debug__" : Str)) = false := by decide) (d3 : (z == ("__debug__" : Str)) = false := by decide) :
    TestOk X (.Tuple [.Name x p1, .Name y p2, .Name z p3] e1 tp) [c1, c2, c3] := fun a oe pn pins s σ H b Q E I hx k => by
  refine wpAny_Tuple_spliced ?_
  show wpAny _ _ (spliced [(false, eval (.Name x p1) X.env), (false, eval (.Name y p2) X.env), (false, eval (.Name z p3) X.env)]) _ _ _
  refine Calls.spliced_cons (ld_glob I g1 m1 (Calls.spliced_cons (ld_glob I g2 m2 (Calls.spliced_cons (ld_glob I g3 m3 (Calls.spliced_nil ⟨(by show 3 ≤ sizeLine; decide), ?_⟩) d3)) d2)) d1)
  have kk : ∀ c o, s.heap.get? c = some o → (s.heap.push { cls := .type "tuple", data := .seq [c1, c2, c3].toArray }).get? c = some o := fun c o e => Heap.get?_push_of_some _ e
  exact (PySem.W.exm_tup3 (M := model X.prog X.w) (I.kIn.keeps kk) ((looks_cls I).keeps kk) (Heap.get?_push_size _ rfl) hx).here (k _ kk)
end
theorem fly_kept {B h h' : Heap} {l : List Env} {e : Addr} {Z : Obj → Prop} (k : ∀ b o, h.get? b = some o → h'.get? b = some o) (x : HandSPX.FlyingZ B l e Z h) : HandSPX.FlyingZ B l e Z h' := by
  obtain ⟨st, no, fr, oe, vs, T, oT, ts, a1, a2, a3, a4, a5, a6, a7, a8⟩ := x
  exact ⟨fun b o e => k b o (st b o e), no, Heap.FunFrames.of_keeps (fun b o e _ => ⟨o, k b o e, rfl⟩) fr, oe, vs, T, oT, ts, k _ _ a1, a2, a3, a4, a5, a6, k _ _ a7, a8⟩
/-- a clause: the classes, the slot of its name, the reading of its suite -/
structure Clause where
  cs : List Value
  i : Nat
  ts : Addr → Obj → Value → Option Addr → TS
/-- behind the suite the name is gone -/
def Ends.gone (D : Ends) (i : Nat) : Ends := { nx := fun σ H => D.nx (σ.set i none) H, rt := D.rt, bk := fun σ H => D.bk (σ.set i none) H, ct := fun σ H => D.ct (σ.set i none) H }
def wCl (K : PySem.W.Frag) (Wout : WX) (D : Ends) : List Clause → WX
  | [] => Wout
  | c :: r => fun cls d σ H => ∃ b, PySem.W.exmAny K cls c.cs = some b ∧ (b = true → ∀ a oe, Zc cls d oe → (∃ vs, oe.data = .fields vs) → H a = none → c.ts a oe cls d (Ends.gone D c.i) (σ.set c.i (some (.ref a))) H) ∧ (b = false → wCl K Wout D r cls d σ H)
inductive ClOk (X : Cx) : List ExceptHandler → List Clause → Prop
  | nil : ClOk X [] []
  | cons {t : Expr} {n : Str} {i : Nat} {b0 : Stmt} {suite : List Stmt} {pos : Pos} {cs : List Value} {ts : Addr → Obj → Value → Option Addr → TS} {hds : List ExceptHandler} {l : List Clause} (ht : TestOk X t cs) (hi : X.N[i]? = some n) (hl : X.env.kindOf n = some .local)
      (hs : ∀ (a : Addr) (oe : Obj) (cls : Value) (d : Option Addr) (pn : List (Addr × Obj)), Zc cls d oe → (∃ vs, oe.data = .fields vs) → PSs (X.suite a ((a, oe) :: pn)) (b0 :: suite) (ts a oe cls d)) (r : ClOk X hds l) : ClOk X (.ExceptHandler (some t) (some n) (b0 :: suite) pos :: hds) (⟨cs, i, ts⟩ :: l)
section
variable {X : Cx} {body : List Stmt} {h0 : ExceptHandler} {hds : List ExceptHandler} {l : List Clause} {pos : Pos} {tb : WX → TS} {Wout : WX}
/-- the error lies on the ground and is looked at by the clauses -/
theorem clauses_run {pins : List (Addr × Obj)} {σ : L2.St} {H : Hp} {D : Ends} {sI s' : Shared} {B : Heap} {a : Addr} {cls : Value} {d : Option Addr} (hs : X.stack = X.env :: X.outer) (hf : X.env.frame = some X.env.locals) (hN : X.N.Nodup) (tk : Takes X Wout) (J : Inv X pins σ H sI)
    (nb : ∀ b o, sI.heap.get? b = some o → b ∉ frs X.stack → B.get? b = some o) (na : H a = none) (os : s'.os = sI.os) (ag : AllBare s'.gens) {hds : List ExceptHandler} {l : List Clause} (hk : ClOk X hds l) :
    ∀ (h : Heap), HandSPX.FlyingZ B (X.env :: X.outer) a (Zc cls d) h → sI.heap.UpToSlots h → wCl X.K Wout D l cls d σ H → wpAny (model X.prog X.w) X.A (handleBy (.ref a) X.env hds) (SP X pins D) X.xe { s' with heap := h } := by
  have ok := J.ok
  have place : ∀ {h : Heap}, HandSPX.FlyingZ B (X.env :: X.outer) a (Zc cls d) h → a ≠ X.env.locals ∧ a ∉ X.fs := fun {h} fl => by
    obtain ⟨oe, vs, he, hz, hd⟩ := fl.there
    have nfr : a ∉ frs (X.env :: X.outer) := fun hm => by
      obtain ⟨_, o', e', hnf⟩ := fl.2.2.1.mem hm
      rw [he] at e'
      cases e'
      exact hnf _ hd
    exact ⟨fun z => nfr (List.mem_filterMap.mpr ⟨X.env, List.mem_cons_self, by rw [hf, z]⟩), fun hm => by
      obtain ⟨e, he, q⟩ := List.mem_filterMap.mp hm
      exact nfr (List.mem_filterMap.mpr ⟨e, List.mem_cons_of_mem _ he, q⟩)⟩
  induction hk with
  | nil =>
    intro h fl up want
    refine wpAny_handleBy_nil ?_
    obtain ⟨k1, k2, k3, oe, vs, T, oT, us, he, hz, hd, h1, hr⟩ := id fl
    unfold PySem.passOn
    refine wpAny_bind (wpAny_field he hd h1 ?_)
    rw [if_neg (show ¬ ((Value.ref T == Value.none) = true) from by simp)]
    have fin : wpAny (model X.prog X.w) X.A (setFlight (.ref a) X.env.frame) (fun _ s4 => wpAny (model X.prog X.w) X.A (throw (.ref a) : Sem Flow) (SP X pins D) X.xe s4) X.xe { s' with heap := h } := by
      rw [hf]
      exact HandSPX.setFlight_upZ fl fun h4 hh4 up4 => wpAny_throw (tk _ _ ⟨a, B, sI, pins, σ, H, cls, d, rfl, J, nb, up.trans up4, .inr (.inr (by rw [hs]; exact hh4)), na, os, ag, want⟩)
    first
      | exact wpAny_bind (wpAny_pure (wpAny_bind fin))
      | exact wpAny_bind fin
  | @cons t n i b0 suite pos cs ts hds2 l2 ht hi hln hsu r ih =>
    intro h fl up want
    obtain ⟨b, hb, yes, no⟩ := want
    obtain ⟨oe, vs, he, hz, hd⟩ := fl.there
    obtain ⟨nL, nF⟩ := place fl
    have J3 : Inv X pins σ H { s' with heap := h } := J.landed nb fl.1 up os ag
    refine wpAny_handleBy_cons (codeAny_handlers_test (ht a oe (X.pn ++ pins) [] _ σ H b _ _ (J3.suite he hd na nL nF) (by rw [hz.1]; exact hb) fun h5 k5 => ?_)) (by intro q; cases q)
    have fl5 := fly_kept k5 fl
    have up5 := up.trans (Heap.UpToSlots.of_keeps k5)
    cases b with
    | false => exact ih h5 fl5 up5 (no rfl)
    | true =>
      refine codeAny_handlers_suite_as (HandSPX.lands_againZ fl5 fun h6 fl6 up6 => ?_)
      obtain ⟨oe6, vs6, he6, hz6, hd6⟩ := fl6.there
      have J6 : Inv X pins σ H { s' with heap := h6 } := J.landed nb fl6.1 (up5.trans up6) os ag
      refine store_ok (X := X.suite a ((a, oe6) :: (X.pn ++ pins))) (v := .ref a) (J6.suite he6 hd6 na nL nF) hN hi (.inl hln) rfl (fun s7 S7 => ?_) (.inr hln)
      refine wpAny_mono ((hsu a oe6 cls d (X.pn ++ pins) hz6 ⟨_, hd6⟩).run [] s7 _ H _ S7 (yes rfl a oe6 hz6 ⟨_, hd6⟩ na)) (fun f s8 hsp => ?_) (fun _ _ z => False.elim z)
      have leave : ∀ {σ8 : L2.St} {H8 : Hp} {Q : Shared → Prop}, Inv (X.suite a ((a, oe6) :: (X.pn ++ pins))) [] σ8 H8 s8 → (∀ s9, Inv X pins (σ8.set i none) H8 s9 → Q s9) →
          wpAny (model X.prog X.w) X.A (do bindName X.env n .none; unbindBehindTheSuite X.env n pos) (fun _ s9 => Q s9) X.xe s8 := fun {σ8 H8 Q} S8 hq => gone_ok (S8.unsuite ok) hN hi hln hq
      cases f with
      | next => exact let ⟨_, _, S8, q8⟩ := hsp; leave S8 fun _ J9 => ⟨_, _, J9, q8⟩
      | brk => exact let ⟨_, _, S8, q8⟩ := hsp; leave S8 fun _ J9 => ⟨_, _, J9, q8⟩
      | cont => exact let ⟨_, _, S8, q8⟩ := hsp; leave S8 fun _ J9 => ⟨_, _, J9, q8⟩
      | ret u => exact let ⟨_, _, _, S8, r8, q8⟩ := hsp; leave S8 fun _ J9 => ⟨_, _, _, J9, r8, q8⟩
/-- try: body, except T as n: suite, .. -/
theorem ps_tryA (hs : X.stack = X.env :: X.outer) (hf : X.env.frame = some X.env.locals) (hN : X.N.Nodup) (tk : Takes X Wout)
    (hb : ∀ (W : WX) (pn : List (Addr × Obj)) (xe : Value → Shared → Prop), Takes (X.tr pn xe) W → PassesOwn (model X.prog X.w) X.A X.env xe → PSs (X.tr pn xe) body (tb W)) (hh : ClOk X (h0 :: hds) l) :
    PS X (.Try body (h0 :: hds) [] [] pos) (fun D σ H => tb (wCl X.K Wout D l) D σ H) := by
  constructor
  intro pins s σ H D I h
  have ok := I.ok
  have hfr : X.A.frames = some (X.env :: X.outer) := by rw [ok.frames, hs]
  refine wpAny_Try_except (wpAny_mono ((hb (wCl X.K Wout D l) (X.pn ++ pins) (fun e s1 => wpAny (model X.prog X.w) X.A (noteFrame e X.env) (fun _ s2 => wpAny (model X.prog X.w) X.A (setFlight e none) (fun _ s3 =>
    wpAny (model X.prog X.w) X.A (handleBy e X.env (h0 :: hds)) (SP X pins D) X.xe s3) X.xe s2) X.xe s1) (fun u s' xx => ?_) PassesOwn.looking).run [] s σ H D (I.toTry _) h) (fun f s1 hsp => ?_) (fun e s1 he => he))
  · obtain ⟨a, B, sI, pins', σ', H', cls, d, rfl, J', nb, up, sky, na, os, ag, want⟩ := xx
    have sky' : Sky B (X.env :: X.outer) a (Zc cls d) X.env.locals s'.heap := by rw [← hs]; exact sky
    show wpAny (model X.prog X.w) X.A (noteFrame (.ref a) X.env) _ _ _
    exact Sky.land Zc.steady hfr hf sky' fun h3 fl3 up3 => clauses_run hs hf hN tk (J'.ofTry ok) nb na os ag hh h3 fl3 (up.trans up3) want
  · cases f with
    | next => exact let ⟨σ', H', J', q⟩ := hsp; wpAny_execs_nil ⟨σ', H', J'.ofTry ok, q⟩
    | brk => exact let ⟨σ', H', J', q⟩ := hsp; ⟨σ', H', J'.ofTry ok, q⟩
    | cont => exact let ⟨σ', H', J', q⟩ := hsp; ⟨σ', H', J'.ofTry ok, q⟩
    | ret u => exact let ⟨v, σ', H', J', r, q⟩ := hsp; ⟨v, σ', H', J'.ofTry ok, r, q⟩
end
end Sz
/-! own errors with one field, over any built-in base -/
namespace Sz
open PySem PySem.Spec PyProof.Rows L2
/-- what is written of the error class at C: its __init__ at fI sets the field f -/
structure ErrC (K : PySem.W.Frag) (C fI : Addr) (f : Str) : Prop where
  ex : ∃ (B newId initId : String) (bmB : List Value), ExcBaseFacts B newId initId bmB ∧ StoreFacts B bmB "object.__setattr__" "object" ∧ PySem.W.excInitIn K C bmB newId = true ∧ PySem.W.excOver K C bmB = true
  sa : PySem.W.findIn K (.ref C) "__setattr__" = some (some (.builtin "object.__setattr__"))
  tk : PySem.W.takerIn K C f = some none
  hd : PySem.W.hasDictIn K C = true
  exC : PySem.W.subIn K (.ref C) (.type "BaseException") = some true
  tyC : PySem.W.typeIn K (.ref C) = some (.type "type")
  kC : PySem.W.keepIn K (.ref C) = true
  iC : PySem.W.findIn K (.ref C) "__init__" = some (some (.ref fI))
  tI : PySem.W.typeIn K (.ref fI) = some (.type "function")
section
open Builtin Builtin.ObjectAttr
variable {prog : Program} {w : World} {A : Around} {R : Result → Shared → Prop} {hp : Heap} {g : Array GenState} {d : Drawn} {t : Nat} {os : OsState}
/-- the first field of an error -/
theorem err_osa {K : PySem.W.Frag} {C fI : Addr} {f : Str} {tk : Tok} {v : Value} {x : Addr} {fv : Array Value} (T : ErrC K C fI f) (X : K.In hp) (hx : hp.get? x = some { cls := .ref C, data := .fields fv })
    (hq : ∀ h' tk' dx, (∀ b o, b ≠ x → hp.get? b = some o → h'.get? b = some o) → hp.objs.size ≤ dx → dx ≠ x → h'.get? x = some { cls := .ref C, dict := some dx, data := .fields fv } →
      h'.Ns1 dx (fun y => if y = f then some v else none) → R (.ok (.ret .none)) ⟨h', g, d, tk', os⟩) :
    codeAny (model prog w) A (.call (.builtin "object.__setattr__") ⟨[.ref x, .str f tk, v], []⟩) R ⟨hp, g, d, t, os⟩ := by
  obtain ⟨B, newId, initId, bmB, FB, SF, _, ov⟩ := T.ex
  have hxs : x ≠ hp.objs.size := Nat.ne_of_lt (Heap.lt_size hx)
  refine PySem.W.osa_openX (s := ⟨hp, g, d, t, os⟩) (od := none) SF X ⟨hx, rfl, rfl, trivial⟩ ov T.tk fun b => ?_
  show wpAny _ _ (storeInOwnDict (.ref x) (.ref C) (.str f tk) f v b) _ _ _
  obtain ⟨cd, hc, hh⟩ := PySem.W.any_some T.hd
  have hcls : PySem.W.Looks (model prog w) hp (classData C) cd := PySem.W.looks_clsIn X hc
  obtain ⟨nm, bs, mro, ns, qn, hd, sn, sb, ab, col, del⟩ := cd
  dsimp only at hh
  subst hh
  unfold storeInOwnDict ownDictForStores
  repeat (first | with_reducible refine HandSPX.store_in_new ?_ ?_ | with_reducible refine wpAny_loadPart_at hx ?_ | with_reducible refine hcls.at ?_ | wp_step)
  · exact ⟨_, #[], _, (Heap.get?_update_ne _ _ _ _ hxs.symm).trans (Heap.get?_push_at rfl rfl), rfl, fun e he => absurd he (by simp), fun _ => rfl⟩
  · intro h' tk' hn' hs
    have h1 : (hp.push { cls := .type "dict", data := .dict #[] }).get? x = some { cls := .ref C, data := .fields fv } := Heap.get?_push_of_some _ hx
    refine hq h' tk' hp.objs.size (fun b o hb ho => ?_) (Nat.le_refl _) hxs.symm ?_ hn'
    · exact (hs.2 b (Nat.ne_of_lt (Heap.lt_size ho))).trans ((Heap.get?_update_ne _ _ _ _ hb).trans (Heap.get?_push_of_some _ ho))
    · exact (hs.2 x hxs).trans (Heap.get?_update_self _ h1 rfl)
end
section
variable {X : Cx} {pins : List (Addr × Obj)} {σ : L2.St} {H : Hp} {s : Shared} {a C fI dx : Addr} {f : Str} {y : V} {u : Value}
theorem err_first {A : Around} {Q : Unit → Shared → Prop} {E : Value → Shared → Prop} (T : ErrC X.K C fI f) (I : Inv X pins σ H s) (e : H a = some (exo a C none)) (ry : RelV y u)
    (h : ∀ dx s', H dx = none → dx ≠ a → Inv X pins σ (upd (upd H dx (exd dx [(f, y)])) a (exo a C (some dx))) s' → Q () s') : wpAny (model X.prog X.w) A (setAttr (.ref a) f u) Q E s := by
  obtain ⟨t1, ho⟩ := exo_at I.hok e
  obtain ⟨hp, g, dr, t, os⟩ := s
  refine PySem.W.set_plain I.kIn (ox := { cls := .ref C, dict := none, data := .fields #[.ref t1, .none, .none, .none, .bool false, .none] }) (od := none) ⟨ho, rfl, rfl, trivial⟩ T.sa (err_osa T I.kIn ho fun h' tk' dx k dn dne hx hn => ?_)
  have free : H dx = none := I.hok.fresh dn
  have old : ∀ {b : Addr} {o : Obj}, hp.get? b = some o → b ≠ dx := fun z => Nat.ne_of_lt (Nat.lt_of_lt_of_le (Heap.lt_size z) dn)
  have off : ∀ {b : Addr}, H b = none → b ≠ a := fun n z => by
    rw [z, e] at n
    cases n
  have same : ∀ {b : Addr} {o : HO}, H b = some o → exo a C none ≠ o → (upd (upd H dx (exd dx [(f, y)])) a (exo a C (some dx))) b = some o := fun z ne => by
    rw [upd_ne (at_ne e z ne), upd_ne (ne_of_none z free)]
    exact z
  refine h dx _ free dne (I.un (t' := tk') ⟨fun b o z n _ _ => k b o (off n) z, fun b o z n _ _ => ⟨o.slots, k b o (off n) z⟩, fun b o z n _ => by rw [upd_ne (off n), upd_ne (old z)]; exact n, fun b o z _ => ?_, fun b xs z => same z exo_tup, fun b o v z => same z exo_frz, fun b ps z => ⟨#[], by rw [same z exo_tbl]; simp⟩⟩ fun b o z => ?_)
  · by_cases hb : b = a
    · exact ⟨_, by rw [hb]; exact hx⟩
    · exact ⟨o, k b o hb z⟩
  · by_cases hb : b = a
    · subst hb
      rw [upd_same] at z
      cases z
      exact exo_ok hx
    · rw [upd_ne hb] at z
      by_cases hd : b = dx
      · subst hd
        rw [upd_same] at z
        cases z
        exact exd_ok hn (relO_put (fs := []) ry fun _ => True.intro)
      · rw [upd_ne hd] at z
        refine (I.hok b o z).stay (fun c v hc q => k c v ?_ q) (fun c hc => same hc exo_own) (fun c xs hc => same hc exo_tup)
        rcases hc with hc | hc
        · rw [hc]
          exact hb
        · exact at_ne e hc exo_own
/-- self.f = e in an error's __init__ -/
theorem ps_errFld {o v : Expr} {p' pos : Pos} {to te : TE} (hop : PE X o to) (hv : PE X v te) (hs : swapsWith v (some (.Attribute o f p')) pos.line X.env = pure false := by rfl) :
    PS X (.Assign [.Attribute o f p'] v pos) (fun D σ H => te σ H fun y H1 => to σ H1 fun x H2 => ∃ a C fI : Addr, x = .ref a ∧ ErrC X.K C fI f ∧ H2 a = some (exo a C none) ∧ ∀ dx, H2 dx = none → dx ≠ a → D.nx σ (upd (upd H2 dx (exd dx [(f, y)])) a (exo a C (some dx)))) := by
  constructor
  intro pins s σ H D I h
  refine plainObj_wpAny_Assign_Attribute (thn (hv.run pins s σ H _ I h) fun w1 s1 ⟨y, H1, I1, r1, q1⟩ => thn (hop.run pins s1 σ H1 _ I1 q1) fun w2 s2 ⟨x, H2, I2, r2, a, C, fI, ex, T, ea, q⟩ => ?_) hs
  subst ex
  obtain rfl : w2 = Value.ref a := r2
  exact err_first T I2 ea r1 fun dx s' n ne J => ⟨σ, _, J, q dx n ne⟩
end
/-- what __init__ of an error class promises -/
def spErr (K : PySem.W.Frag) (C fI : Addr) (f : Str) : Sp := fun vs H Q _ => ∃ (a : Addr) (v : V), vs = [.ref a, v] ∧ ErrC K C fI f ∧ H a = some (exo a C none) ∧ ∀ dx, H dx = none → dx ≠ a → Q .non (upd (upd H dx (exd dx [(f, v)])) a (exo a C (some dx)))
/-- raise C(e) asks: the field's value, then the wish of the error with its own dict -/
def tErr (C : Addr) (f : Str) (te : TE) : L2.St → Hp → XK → Prop := fun σ H Q => te σ H fun v H1 => ∀ d, H1 d = none → Q (.ref C) (some d) (upd H1 d (.xd [(f, v)]))
section
variable {X : Cx} {x : Str} {C fI : Addr} {f : Str} {e : Expr} {te : TE} {k : Nat} {p pos : Pos} {fd : FuncData} {ps : List Str}
theorem pmk_err (T : ErrC X.K C fI f) (F1 : FnOk X.prog X.w X.K X.mg X.base CX0 k fI fd ps (spErr X.K C fI f)) (hb : Binds X.K fd ps []) (hr : Room (k + 1) X.A) (hg : Gl X x) (hm : X.mg x = some (.ref C)) (he : PE X e te)
    (hdb : (x == ("__debug__" : Str)) = false := by decide) (hst : starEach [e] X.env = (false, eval e X.env) :: starEach [] X.env := by rfl) (hpl : (backTo pos (starEach [] X.env)).any (·.1) = false := by rfl) :
    PMk X (.Call (.Name x p) [e] [] pos) (tErr C f te) := by
  intro pins s σ H Q I h
  obtain ⟨B, newId, initId, bmB, FB, SF, ini, _⟩ := T.ex
  refine wpAny_Call_Name_kw (ld_glob I hg hm ?_ hdb)
  refine PySem.W.callWith_K (h₀ := X.base) I.ok.mod.kin T.kC (thn ((pa_cons he pa_nil hst).run pos pins s σ H (fun vs H1 => match vs with | [v] => ∀ d, H1 d = none → Q (.ref C) (some d) (upd H1 d (.xd [(f, v)])) | _ => False) I h) ?_) hst hpl
  rintro us s1 ⟨vs, H1, I1, r1, q⟩
  match vs, r1, q with
  | [v], r1, q =>
    obtain ⟨uv, rfl, ru⟩ := vals1 r1
    refine ⟨I1.kIn, ?_⟩
    show wpAny _ _ (call (.ref C) [uv]) _ _ _
    obtain ⟨nm, N', qn, bs, bm, hdct, sn, sub, ab, col, dd, k0, k1, k2, k3, k5, hC, hT⟩ := PySem.W.excInit_of I1.kIn ini
    obtain ⟨hp, g, dr, tk, os⟩ := s1
    have hsz : hp.objs.size ≤ hp.objs.size + 1 := Nat.le_succ _
    have hn : H1 (hp.objs.size + 1) = none := I1.hok.fresh hsz
    have kk : ∀ b o, hp.get? b = some o → ((hp.push (PySem.W.kdv_tup [uv])).push (HandSPX.excO C hp.objs.size)).get? b = some o := fun b o z => Heap.get?_push_of_some _ (Heap.get?_push_of_some _ z)
    have hget : ((hp.push (PySem.W.kdv_tup [uv])).push (HandSPX.excO C hp.objs.size)).get? (hp.objs.size + 1) = some (HandSPX.excO C hp.objs.size) := by heap_get
    have I2 : Inv X pins σ (upd H1 (hp.objs.size + 1) (exo (hp.objs.size + 1) C none)) ⟨(hp.push (PySem.W.kdv_tup [uv])).push (HandSPX.excO C hp.objs.size), g, dr, tk, os⟩ := I1.laid (t' := tk) kk hsz (exo_ok hget)
    have r2 : Vals [V.ref (hp.objs.size + 1), v] [Value.ref (hp.objs.size + 1), uv] := .cons rfl (.cons ru .nil)
    have want : spErr X.K C fI f [V.ref (hp.objs.size + 1), v] (upd H1 (hp.objs.size + 1) (exo (hp.objs.size + 1) C none)) (fun z H2 => z = .non ∧ ∃ (d : Addr) (fs : List (Str × V)), H2 (hp.objs.size + 1) = some (exo (hp.objs.size + 1) C (some d)) ∧ H2 d = some (exd d fs) ∧ H1 d = none ∧
        Q (.ref C) (some d) (upd (del H2 (hp.objs.size + 1)) d (.xd fs))) (fun _ _ _ => False) := by
      refine ⟨_, v, rfl, T, upd_same, fun dx hdx ndx => ⟨rfl, dx, [(f, v)], upd_same, ?_, ?_, ?_⟩⟩
      · rw [upd_ne ndx, upd_same]
      · rw [upd_ne ndx] at hdx
        exact hdx
      · rw [upd_ne ndx] at hdx
        have eq : upd (del (upd (upd (upd H1 (hp.objs.size + 1) (exo (hp.objs.size + 1) C none)) dx (exd dx [(f, v)])) (hp.objs.size + 1) (exo (hp.objs.size + 1) C (some dx))) (hp.objs.size + 1)) dx (.xd [(f, v)]) = upd H1 dx (.xd [(f, v)]) := by
          funext b
          by_cases hb : b = dx
          · rw [hb, upd_same, upd_same]
          · rw [upd_ne hb, upd_ne hb]
            by_cases ha : b = hp.objs.size + 1
            · rw [ha, del_same, hn]
            · rw [del_ne ha, upd_ne ha, upd_ne hb, upd_ne ha]
        rw [eq]
        exact q dx hdx
    have hl : [Value.ref (hp.objs.size + 1), uv].length = ps.length := F1.len _ _ _ _ want
    refine wpAny_call (HandSPX.call_own FB hT hC (PySem.W.looks_findIn I1.kIn T.iC) (fun self => PySem.W.bind_fn I1.kIn self T.tI) (by show 1 ≤ sizeLine; decide)
      (codeAny_mono (F1.run _ X.stack _ _ ⟨[Value.ref (hp.objs.size + 1), uv], []⟩ ([Value.ref (hp.objs.size + 1), uv] ++ []) ([V.ref (hp.objs.size + 1), v] ++ []) _ (fun _ _ _ => False) (hr.make C [uv] []) (I2.env0.make C [uv] []) (hb _ [Value.ref (hp.objs.size + 1), uv] I2.kIn hl) (r2.append .nil) want) fun r s' hq => ?_))
    cases r with
    | error er => exact False.elim hq
    | ok fl =>
      cases fl with
      | ret u =>
        obtain ⟨z, H2, os2, bare2, un2, hok2, rv, ez, d, fs, ea, ed, hd1, q2⟩ := hq
        subst ez
        obtain ⟨h2, g2, d2, t2, os'⟩ := s'
        exact ⟨rv, mk_end (raises_own T.exC T.tyC) I1 hsz kk un2 hok2 os2 bare2 ea ed hd1 q2⟩
      | next => exact False.elim hq
      | brk => exact False.elim hq
      | cont => exact False.elim hq
end
end Sz
/-! isinstance and the fields of the error that is pinned -/
namespace Sz
open PySem PySem.Spec PyProof.Rows L2
section
open PySem.W PySem.Calls
variable {prog : Program} {w : World} {A : Around} {E : Value → Shared → Prop} {s : Shared} {K : Frag} {x D : Addr} {ox : Obj} {od : Option Obj}
/-- x.__class__ of an error, with a dict or without -/
theorem err_class {Q : Option Value → Shared → Prop} (T : ExcC K D) (X : K.In s.heap) (I : InstAt s.heap x ox D od) (h : Q (some (.ref D)) { s with toks := s.toks + 1 }) : wpAny (model prog w) A (getAttr? (.ref x) "__class__") Q E s := by
  have isC : (clsIn K D).isSome = true := by obtain ⟨cd, hc, _⟩ := any_some T.hd; rw [hc]; rfl
  have found : findObj K D od "__class__" = some (.bind (.builtin "getset_descriptor.__get__") (.builtin "object.__class__")) := by
    cases od with
    | none => exact findObj_dataN isC T.ha T.hn T.ht
    | some o => exact findObj_data isC T.ha T.hn T.ht
  obtain ⟨hp, g, dr, t, os⟩ := s
  have l0 := I.type (M := model prog w)
  have l1 := looks_findIn (M := model prog w) X T.hg
  have l2 := looks_findIn (M := model prog w) X T.hk
  have l3 := looks_find (M := model prog w) X I found
  have sub : Looks (model prog w) hp (isInstance (.ref x) (.type "BaseException")) true := l0.andThen (looks_subIn X T.hs)
  have n2 : (Value.builtin "BaseException.__getattribute__" == Value.builtin "object.__getattribute__") = false := by decide +kernel
  have n1 : (onTheHeap (Value.ref D) && Value.builtin "BaseException.__getattribute__" == Value.builtin "object.__getattribute__") = false := by rw [n2]; rfl
  unfold getAttr? getAttrBy? getAttrBy
  refine wpAny_bind (wpAny_mkText (wpAny_bind (wpAny_attempt (wpAny_holding (wpAny_bind (l0.at (wpAny_bind (l1.at ?_))))))))
  show wpAny _ _ (if (onTheHeap (Value.ref D) && Value.builtin "BaseException.__getattribute__" == Value.builtin "object.__getattribute__") = true then _ else _) _ _ _
  rw [n1, if_neg Bool.false_ne_true]
  unfold getAttrByItsOwn hookBefore
  refine wpAny_bind ?_
  rw [if_pos (show onTheHeap (Value.ref D) = true from rfl)]
  refine l2.at (wpAny_bind (wpAny_attempt (wpAny_holding ?_)))
  unfold callGetattribute
  rw [show (false && onTheHeap (Value.builtin "BaseException.__getattribute__")) = false from rfl, if_neg Bool.false_ne_true]
  unfold boundAndCalled
  rw [PySem.F.excAttr_ValueError.ga.bind (.ref x)]
  refine wpAny_bind (wpAny_pure ?_)
  show wpAny _ _ (call (.builtin "BaseException.__getattribute__") [.ref x, .str "__class__" t]) _ _ _
  refine wpAny_call (codeAny_call_builtin PySem.F.excAttr_ValueError.ga.plain PySem.F.entry_bexc_ga (@check_slot (model prog w) _ _ ⟨hp, g, dr, t + 1, os⟩ "BaseException.__getattribute__" "BaseException" "__getattribute__" (.ref x) [.str "__class__" t] [] _ (by decide +kernel) (by decide +kernel) sub (PySem.F.args_bexc_ga (.ref x) (.str "__class__" t)) ?_))
  unfold Builtin.«object.__getattribute__»
  refine wpAny_bind (wpAny_of_eq (a := ((Value.ref x : Value), [Value.str "__class__" t])) (by first | rfl | (simp only [slotArgs]; rfl)) ?_)
  refine wpAny_bind (wpAny_pure (wpAny_bind (l0.at (wpAny_bind (l3.at ?_)))))
  show wpAny _ _ (holding [Value.builtin "object.__class__"] (call (.builtin "getset_descriptor.__get__") [.builtin "object.__class__", .ref x, .ref D]) >>= ret) _ _ _
  refine wpAny_bind (wpAny_holding (wpAny_call (class_get (s := ⟨hp, g, dr, t + 1, os⟩) (ox := ox) (od := od) X I T.hm ?_)))
  refine wpAny_pure ?_
  show wpAny _ _ (handedOut (.ref D)) _ _ _
  rw [handedOut_of (v := .ref D) rfl]
  first
    | exact wpAny_pure (wpAny_pure h)
    | exact wpAny_pure h
    | exact wpAny_pure (wpAny_bind (wpAny_pure (wpAny_pure h)))
theorem cls_obj {cd : ClassData} (hc : clsIn K D = some cd) : ∃ c dd sl, K.lookup D = some ⟨c, dd, .cls cd, sl⟩ := by
  unfold clsIn at hc
  split at hc
  · rename_i c dd cd' sl ho
    cases hc
    exact ⟨_, _, _, ho⟩
  · cases hc
theorem kit_err (T : ExcC K D) : KitX K (.ref x) (.ref D) (fun h => ∃ od, InstAt h x ox D od) := by
  obtain ⟨cd, hc, _⟩ := any_some T.hd
  obtain ⟨c, dd, sl, ho⟩ := cls_obj hc
  refine ⟨fun _ _ _ ⟨od, I⟩ => I.type, fun _ _ X _ A' Q' E' s' k q => ?_, fun h tp dd' its n sl' X htp => ?_, fun X ⟨od, I⟩ k => err_class T X I k⟩
  · unfold isType loadHead
    exact wpAny_bind (wpAny_loadPart (k _ _ (X _ _ ho)) (wpAny_pure q))
  · refine Bool.eq_false_iff.mpr fun q => ?_
    have e : D = tp := Value.ref.inj (beq_iff_eq.mp q)
    subst e
    cases (X _ _ ho).symm.trans htp
end
section
variable {X : Cx} {a : Addr} {oe : Obj}
/-- isinstance(e, c), e the pinned error -/
def rIsP (K : PySem.W.Frag) (a : Addr) (oe : Obj) : List V → Hp → VK → Prop := fun xs H Q => ∃ (c : V) (cv : Value) (D : Addr) (b : Bool), xs = [.ref a, c] ∧ (∀ u, RelV c u → u = cv) ∧ oe.cls = .ref D ∧ ExcC K D ∧ (∃ vs, oe.data = .fields vs) ∧ (oe.dict = none ∨ ∃ (d : Addr) (fs : List (Str × V)), oe.dict = some d ∧ H d = some (.xd fs)) ∧ PySem.W.kitOne K (.ref D) cv = some b ∧ Q (.bl b) H
theorem inst_pin {pins : List (Addr × Obj)} {σ : L2.St} {H : Hp} {s : Shared} {D : Addr} (hp : (a, oe) ∈ X.pn) (I : Inv X pins σ H s) (hc : oe.cls = .ref D) (hv : ∃ vs, oe.data = .fields vs) (hd : oe.dict = none ∨ ∃ (d : Addr) (fs : List (Str × V)), oe.dict = some d ∧ H d = some (.xd fs)) :
    ∃ od, PySem.W.InstAt s.heap a oe D od := by
  have hg := (I.pin (a, oe) (List.mem_append_left _ hp)).1
  obtain ⟨vs, hv⟩ := hv
  have nc : PySem.W.notCls oe = true := by unfold PySem.W.notCls; rw [hv] <;> rfl
  rcases hd with hd | ⟨d, fs, hd, he⟩
  · exact ⟨none, hg, hc, nc, by rw [hd]; trivial⟩
  · have hx : ObjOk X.prog X.w H s.heap d (.xd fs) := I.hok d _ he
    obtain ⟨mA, hns, _⟩ := hx
    obtain ⟨od, ho, _⟩ := lookIn_ns hns
    exact ⟨some od, hg, hc, nc, by rw [hd]; exact ho⟩
theorem call_isP (hp : (a, oe) ∈ X.pn) : CallR X (.builtin "isinstance") (rIsP X.K a oe) := by
  intro pins s σ H xs us Q I r h
  obtain ⟨c, cv, D, b, rfl, hcv, hc, T, hv, hd, e, q⟩ := h
  cases r with
  | cons rx rr =>
    cases rr with
    | cons rt rr =>
      cases rr
      cases rx
      cases hcv _ rt
      exact PySem.W.kia_one (kit_err T) I.kIn (inst_pin hp I hc hv hd) e (fun z => nomatch z) fun tk => ⟨.bl b, H, I.kept (t' := tk) fun _ _ z => z, rfl, q⟩
/-- e.f, e the pinned error -/
def tXfP (K : PySem.W.Frag) (a : Addr) (oe : Obj) (f : Str) (te : TE) : TE := fun σ H Q => te σ H fun x H1 => x = .ref a ∧ ∃ (D d : Addr) (fs : List (Str × V)) (v : V), oe.cls = .ref D ∧ oe.dict = some d ∧ (∃ vs, oe.data = .fields vs) ∧ XfC K D ∧ PySem.W.findIn K (.ref D) f = some none ∧ H1 d = some (.xd fs) ∧ fs.lookup f = some v ∧ Q v H1
theorem pe_xfP {e : Expr} {te : TE} {pos : Pos} {n : Str} (hp : (a, oe) ∈ X.pn) (he : PE X e te) (hb : attributeBase e n X.env (eval e X.env) = eval e X.env := by rfl) : PE X (.Attribute e n pos) (tXfP X.K a oe n te) := by
  constructor
  intro pins s σ H Q I h
  refine attr_of hb (thn (he.run pins s σ H _ I h) fun u s1 hh => ?_)
  obtain ⟨x, H1, I1, rx, rfl, D, d, fs, v, hc, hd, ⟨vs, hv⟩, T, hno, ea, l, q⟩ := hh
  obtain rfl : u = Value.ref a := rx
  have hx : ObjOk X.prog X.w H1 s1.heap d (.xd fs) := I1.hok d _ ea
  obtain ⟨mA, hns, hr⟩ := hx
  obtain ⟨od, ho, hl⟩ := lookIn_ns hns
  obtain ⟨u, hu, ru⟩ := RelO.some_of (v := v) (o := mA n) (by rw [← l]; exact hr n)
  have hg := (I1.pin (a, oe) (List.mem_append_left _ hp)).1
  have J : PySem.W.InstAt s1.heap a oe D (some od) := ⟨hg, hc, by unfold PySem.W.notCls; rw [hv] <;> rfl, by rw [hd]; exact ho⟩
  exact HandSPX.exc_get I1.kIn J T.ga T.gg T.exC (PySem.W.findObj_own T.hdC hno rfl (by rw [hl, hu])) (handed_of ru) ⟨v, H1, I1.tok _, ru, q⟩
end
end Sz
/-! what repr shows of things of many kinds; counting among flat values -/
namespace Sz
open PySem PySem.Spec PyProof.Rows L2
/-- repr of v is z -/
inductive Shw (K : PySem.W.Frag) (H : Hp) : V → Str → Prop
  | flat {v : V} {z : Str} (h : flatShown v = some z) : Shw K H v z
  | str {y : Str} (h : (reprText y).length ≤ sizeLine) : Shw K H (.str y) (reprText y)
  | dat {a : Addr} {d : PyData} (h : Dp K H (.ref a) d) (h1 : d.showable = true) (h2 : d.hasDict = false) (h3 : d.depth ≤ 40) (h4 : d.shown.length ≤ sizeLine) : Shw K H (.ref a) d.shown
  | edict {a : Addr} (h : H a = some (.dK [])) : Shw K H (.ref a) "{}"
def rReprW (K : PySem.W.Frag) : List V → Hp → VK → Prop := fun xs H Q => ∃ (v : V) (z : Str), xs = [v] ∧ Shw K H v z ∧ Q (.str z) H
section
variable {X : Cx}
theorem cr_reprW (gd : X.A.guards = some []) (hu : X.A.units + 64 < cLine) : CallR X (.builtin "repr") (rReprW X.K) := by
  intro pins s σ H xs us Q I r h
  obtain ⟨v, z, rfl, hs, q⟩ := h
  cases hs with
  | flat h => exact cr_repr pins s σ H [v] us Q I r ⟨v, z, rfl, h, q⟩
  | str h => exact cr_reprS pins s σ H _ us Q I r ⟨_, rfl, h, q⟩
  | dat h h1 h2 h3 h4 => exact cr_reprD gd hu pins s σ H _ us Q I r ⟨_, _, rfl, h, h1, h2, h3, h4, q⟩
  | @edict a h =>
    obtain ⟨u, rfl, ru⟩ := vals1 r
    cases (show u = Value.ref a from ru)
    obtain ⟨_, ns, vs, kv, hd⟩ : ([] : List (Key × V)).length ≤ sizeLine ∧ (a == sysModules) = false ∧ ∃ vs, KV [] vs ∧ s.heap.DictOf (mixKind X.prog X.w) a vs := I.hok a _ h
    cases kv
    obtain ⟨o, es, ep, e1, e2, e3, _, e4, _⟩ := hd
    have e5 : es.toList = [] := by
      cases q : es.toList with
      | nil => rfl
      | cons x l =>
        rw [q] at e4
        cases e4
    have rd : Reads s.heap (.ref a) (.dict []) [a] := .dict (as := []) (bs := []) e1 e2.1 e3 (by rw [e5]; exact .nil) (by rw [e5]; exact .nil)
    refine repr_of_reads' rd (by decide) (fun _ z => ?_) gd (by show X.A.units + (1 + 1) < cLine; omega) (fun _ _ z => z) (fun h' tok tk kept => ?_) (by decide +kernel)
    · have z2 : sysModules = a := by simpa using z
      rw [z2] at ns
      simp at ns
    · exact ⟨.str "{}", H, I.kept (t' := tk) kept, ⟨_, by rw [show (PyData.dict []).shown = "{}" by decide +kernel]⟩, q⟩
/-- xs.count(y), flat values -/
def rCntF (K : PySem.W.Frag) : V → List V → Hp → VK → Prop := fun x xs H Q => ∃ (p : Addr) (ys : List V) (y : V), x = .ref p ∧ xs = [y] ∧ SqL K H p ys ∧ flatV y = true ∧ ys.all flatV = true ∧ Q (.int (ys.countP fun z => eqV z y : Nat)) H
theorem cnt_eqU {y : V} : ∀ {ys : List V} {us : List Value}, Vals ys us → ys.all flatV = true → us.countP (eqU y) = ys.countP fun z => eqV z y
  | _, _, .nil, _ => rfl
  | z :: ys, u :: us, .cons r t, f => by
    rw [List.all_cons, Bool.and_eq_true] at f
    rw [List.countP_cons, List.countP_cons, cnt_eqU t f.2, eqU_of r f.1]
theorem mt_countF : MtR X "list.count" (rCntF X.K) := by
  intro pins s σ H x xs v us Q I rx rxs h
  obtain ⟨p, ys, y, rfl, rfl, hs, fy, fys, q⟩ := h
  cases rx
  obtain ⟨u, rfl, ru⟩ := rxs.one
  obtain ⟨its, rv, ⟨⟨cls, dd, data, sl⟩, n, ho, hc, hdn, hd⟩, hlen⟩ := I.list hs
  simp only at hc hd
  subst hc hd
  refine call_meets PySem.F.slot_list_count ⟨_, ho, rfl⟩ PySem.F.entry_list_count (PySem.F.args_list_count_2 _ _)
    (SeqAt.list_countAt p its.toArray n dd sl u (eqU y)) ⟨ho, fun z hz => mem_eqAt ru fy rv fys z (by simpa using hz), ?_⟩
  refine ⟨.int (ys.countP fun z => eqV z y : Nat), H, I.tok _, ⟨s.toks, ?_⟩, q⟩
  show Value.int ((its.toArray.toList.countP (eqU y) : Nat) : Int) s.toks = _
  rw [show its.toArray.toList = its from rfl, cnt_eqU rv fys]
end
end Sz
/-! a head that tells of the tables of code objects too, and the law's call with them -/
namespace Sz
open PySem PySem.Spec PyProof.Rows L2
/-! ### the hook -/
structure SaysU (fb : PySem.W.Frag → Bool) (fa : List He.Fa) (fn : List He.DefD) (ts : List He.Tab) (tf : List He.Defn) (w : World) (h : Heap) (K : PySem.W.Frag) : Prop where
  x : SaysX fb fa fn ts w K
  hd : ∀ p ∈ tf, PySem.W.codeHdIn K (He.cT K p).1 (He.cT K p).2 = true
  out : ∀ p ∈ tf, K.lookup (He.cT K p).2 = none
  empty : ∀ p ∈ tf, h.get? (He.cT K p).2 = some { cls := .none, data := .fields #[] }
def obsUG (n : Nat) (fb : PySem.W.Frag → Bool) (fa : List He.Fa) (fn : List He.DefD) (ts : List He.Tab) (tf : List He.Defn) (g : Addr → Option Obj) : Bool × AlX := (He.tabsB g tf (He.frT g (asX g n)), obsX fb fa fn ts (He.frT g (asX g n)))
def hookU (n : Nat) (fb : PySem.W.Frag → Bool) (fa : List He.Fa) (fn : List He.DefD) (ts : List He.Tab) (tf : List He.Defn) : PySem.W.Hook where
  α := Bool × AlX
  obs := fun s => obsUG n fb fa fn ts tf s.heap.get?
  val := fun w => (true, valX fn ts w)
  says := fun w h => ∃ K : PySem.W.Frag, K.In h ∧ SaysU fb fa fn ts tf w h K
  of := fun w s e => by
    have e1 : He.tabsB s.heap.get? tf (He.frT s.heap.get? (asX s.heap.get? n)) = true := congrArg (fun z : Bool × AlX => z.1) e
    have e2 : obsX fb fa fn ts (He.frT s.heap.get? (asX s.heap.get? n)) = valX fn ts w := congrArg (fun z : Bool × AlX => z.2) e
    have key : ∀ p ∈ tf, PySem.W.codeHdIn (He.frT s.heap.get? (asX s.heap.get? n)) (He.cT (He.frT s.heap.get? (asX s.heap.get? n)) p).1 (He.cT (He.frT s.heap.get? (asX s.heap.get? n)) p).2 = true ∧ ∃ o, s.heap.get? (He.cT (He.frT s.heap.get? (asX s.heap.get? n)) p).2 = some o ∧ He.emptyTab o = true := fun p hp => by
      obtain ⟨h3, h4⟩ := He.ba (List.all_eq_true.mp e1 p hp)
      refine ⟨h3, ?_⟩
      cases q : s.heap.get? (He.cT (He.frT s.heap.get? (asX s.heap.get? n)) p).2 with
      | none =>
        rw [q] at h4
        cases h4
      | some o =>
        rw [q] at h4
        exact ⟨o, rfl, h4⟩
    refine ⟨_, He.frT_in, e2, fun p hp => (key p hp).1, fun p hp => ?_, fun p hp => ?_⟩
    · obtain ⟨_, o, q, z⟩ := key p hp
      exact He.frT_none q z
    · obtain ⟨_, o, q, z⟩ := key p hp
      rw [q, He.emptyTab_eq z]
  keeps := fun _ _ _ ⟨K, hK, c⟩ k => ⟨K, PySem.W.Frag.In.keeps hK k, c.x, c.hd, c.out, fun p hp => k _ _ (c.empty p hp)⟩
theorem obsUG_eq {n : Nat} {fb : PySem.W.Frag → Bool} {fa : List He.Fa} {fn : List He.DefD} {ts : List He.Tab} {tf : List He.Defn} {g : Addr → Option Obj} {s : Shared} (h : ∀ a, g a = s.heap.get? a) : obsUG n fb fa fn ts tf g = (hookU n fb fa fn ts tf).obs s := by
  rw [show g = s.heap.get? from funext h]
  rfl
/-! ### the law's call -/
section
variable {P : Program} {w : World} {K : PySem.W.Frag} {mg mb : Str → Option Value} {k : Nat} {fa a : Addr} {fd : FuncData} {x : Str} {sp : Sp} {st : Shared} {vs : List Value} {ns : List Int} {cs : List (Addr × Addr)}
/-- the script and the tables -/
def scriptHpT (K : PySem.W.Frag) (a : Addr) (vs : List Value) (ns : List Int) (cs : List (Addr × Addr)) : Hp := fun b => if b ∈ cs.map (·.2) then some (.tbl #[]) else scriptHp K a vs ns b
theorem law_callGT (KX : K.In st.heap) (gl : st.heap.Ns mainGlobals mg) (bl : st.heap.Ns builtinsNs mb) (bb : ∀ y : Str, y ≠ "__name__" → mb y = bootBuiltins y) (nl : st.heap.NoLimit) (gn : st.gens = #[])
    (hT : ∀ p ∈ cs, st.heap.get? p.2 = some { cls := .none, data := .fields #[] }) (nT : ∀ p ∈ cs, K.lookup p.2 = none) (C : ∀ p ∈ cs, PySem.W.CodeHd st.heap p.1 p.2)
    (hbm : ∃ (bm : Addr) (ob : Obj), mg "__builtins__" = some (.ref bm) ∧ bm ≠ builtinsNs ∧ st.heap.get? bm = some ob ∧ ob.cls = .type "module" ∧ ob.dict = some builtinsNs ∧ ob.data = .plain)
    (ha : st.heap.get? a = some { cls := .type "list", data := .seq vs.toArray }) (hi : IntsAre vs ns) (hl : ns.length ≤ sizeLine) (room : Room k callerA)
    (F : ∀ base : Heap, K.In base → base.Ns mainGlobals mg → (∀ p ∈ cs, LamX.TabB base mg p.1 p.2) → FnG P w K mg base k fa fd [x] sp) (bind1 : ∀ (s : Shared) (u : Value), BindsTo s fd ⟨[u], []⟩ [(x, u)])
    (want : ∀ H : Hp, (∀ p ∈ cs, H p.2 = some (.tbl #[])) → SqL K H a (ns.map V.int) → sp [.ref a] H (fun v _ => v = .bl true) fun _ _ _ => False) :
    codeAny (model P w) callerA (.call (.ref fa) ⟨[.ref a], []⟩) (fun r s' => r = .ok (.ret (.bool true)) ∧ OldK st.heap s'.heap ∧ s'.os = st.os ∧ AllBare s'.gens) st := by
  have rel : Vals (ns.map V.int) vs := vals_ints hi
  have len : (ns.map V.int).length ≤ sizeLine := by rw [List.length_map]; exact hl
  generalize hH : scriptHpT K a vs ns cs = H
  have isT : ∀ b ∈ cs.map (·.2), st.heap.get? b = some { cls := .none, data := .fields #[] } := fun b hb => by
    obtain ⟨p, hp, e⟩ := List.mem_map.mp hb
    rw [← e]
    exact hT p hp
  have atT : ∀ p ∈ cs, H p.2 = some (.tbl #[]) := fun p hp => by
    rw [← hH]
    exact if_pos (List.mem_map.mpr ⟨p, hp, rfl⟩)
  have aT : a ∉ cs.map (·.2) := fun z => by
    have q := (isT a z).symm.trans ha
    cases q
  have sm : ∀ {b u}, H b = some u → (b ∈ cs.map (·.2) ∧ u = .tbl #[]) ∨ (b ∉ cs.map (·.2) ∧ b = a ∧ K.lookup a = none ∧ u = .frz { cls := .type "list", data := .seq vs.toArray } (.lst (ns.map V.int))) := fun {b u} e => by
    rw [← hH] at e
    by_cases hb : b ∈ cs.map (·.2)
    · exact .inl ⟨hb, (Option.some.inj ((if_pos hb).symm.trans e)).symm⟩
    · exact .inr ⟨hb, scriptHp_some ((if_neg hb).symm.trans e)⟩
  have ok : HOk P w H st.heap := fun b u e => by
    rcases sm e with ⟨hb, rfl⟩ | ⟨_, rfl, _, rfl⟩
    · exact isT b hb
    · exact ⟨ha, len, vs, _, rel, ha⟩
  have sq : SqL K H a (ns.map V.int) := by
    cases lk : K.lookup a with
    | none => exact Or.inl (Or.inr ⟨_, by rw [← hH]; exact (if_neg aT).trans (if_pos ⟨rfl, lk⟩)⟩)
    | some o =>
      have e := (KX a o lk).symm.trans ha
      cases e
      exact Or.inr ⟨_, vs.toArray, _, lk, rfl, rfl, rfl, by rw [List.size_toArray, ← rel.length]; exact len, by simpa using rel⟩
  have hid : ∀ {b o}, st.heap.get? b = some o → H b = none → (hidT st.heap H).get? b = some o := fun e n => hidT_get e n
  -- what is neither a list nor an empty record is not tracked
  have free : ∀ {b : Addr} {o : Obj}, st.heap.get? b = some o → (∀ vs n, o.data ≠ .seq vs n) → o.data ≠ .fields #[] → H b = none := fun {b o} e h1 h2 => by
    cases q : H b with
    | none => rfl
    | some u =>
      rcases sm q with ⟨hb, _⟩ | ⟨_, rfl, _, _⟩
      · cases (isT b hb).symm.trans e
        exact absurd rfl h2
      · cases ha.symm.trans e
        exact absurd rfl (h1 _ _)
  have freeN : ∀ {b : Addr} {m}, st.heap.Ns b m → H b = none := fun {b m} hn => by
    obtain ⟨o, es, ep, e1, e2, _⟩ := hn
    exact free e1 (fun _ _ z => by rw [e2] at z; cases z) (fun z => by rw [e2] at z; cases z)
  have ns1 : ∀ {b : Addr} {m}, st.heap.Ns b m → (hidT st.heap H).Ns b m := fun {b m} hn => by
    have fr := freeN hn
    obtain ⟨o, es, ep, e1, e2⟩ := hn
    exact ⟨o, es, ep, hid e1 fr, e2⟩
  have inB : K.In (hidT st.heap H) := fun b o e => hid (KX b o e) (by
    cases z : H b with
    | none => rfl
    | some u =>
      rcases sm z with ⟨hb, _⟩ | ⟨_, rfl, z2, _⟩
      · obtain ⟨p, hp, ep⟩ := List.mem_map.mp hb
        rw [← ep, nT p hp] at e
        cases e
      · rw [z2] at e
        cases e)
  have md : Mod K mg (hidT st.heap H) := ⟨inB, ns1 gl, ⟨mb, ns1 bl, bb⟩, let ⟨mc, c1, c2⟩ := nl; ⟨mc, ns1 c1, c2⟩⟩
  have TB : ∀ p ∈ cs, LamX.TabB (hidT st.heap H) mg p.1 p.2 := fun p hp => by
    refine ⟨?_, ?_, fun z => ?_⟩
    · obtain ⟨o, us, file, tf, flags, tg, inF, text, tt, e1, r1, r2, r3, r⟩ := C p hp
      exact ⟨o, us, file, tf, flags, tg, inF, text, tt, hid e1 (free e1 (fun _ _ z => by rw [r2] at z; cases z) (fun z => by rw [r2] at z; cases z; simp at r3)), r1, r2, r3, r⟩
    · obtain ⟨bm, ob, b1, b2, b3, b4, b5, b6⟩ := hbm
      refine ⟨bm, ob, b1, b2, fun q => ?_, fun q => ?_, hid b3 (free b3 (fun _ _ z => by rw [b6] at z; cases z) (fun z => by rw [b6] at z; cases z)), b4, b5, b6⟩
      · obtain ⟨o, es, ep, e, hd, _⟩ := gl
        rw [q, e] at b3
        cases b3
        rw [hd] at b6
        cases b6
      · rw [q, hT p hp] at b3
        cases b3
        cases b6
    · obtain ⟨o, es, ep, e, hd, _⟩ := gl
      rw [z, hT p hp] at e
      cases e
      cases hd
  have env : Env0 P w K mg (hidT st.heap H) callerA [] st H := ⟨rfl, md, fun _ _ e => of_hidT e, Nat.le_of_eq (hidT_size _ _), trivial, fun b z => absurd (show b ∈ ([] : List Addr) from z) (by simp), ok, .of_eq gn⟩
  refine codeAny_mono ((F _ inB (ns1 gl) TB).run callerA [] st H ⟨[.ref a], []⟩ [.ref a] [.ref a] _ _ room rfl env (bind1 st (.ref a)) (.cons rfl .nil) (want H atT sq)) fun r s' h => ?_
  cases r with
  | error z => exact False.elim h
  | ok fl =>
    cases fl with
    | next => exact False.elim h
    | brk => exact False.elim h
    | cont => exact False.elim h
    | ret u =>
      obtain ⟨v, H', os, bare, un, ok', ru, qv⟩ := h
      cases (show v = .bl true from qv)
      cases (show u = Value.bool true from ru)
      have old : ∀ b o, b ∉ cs.map (·.2) → st.heap.get? b = some o → s'.heap.get? b = some o := fun b o nb e => by
        cases z : H b with
        | none => exact un.keep b o e z (by intro y; exact absurd (show b ∈ ([] : List Addr) from y) (by simp)) (by simp)
        | some t =>
          rcases sm z with ⟨hb, _⟩ | ⟨_, rfl, _, rfl⟩
          · exact absurd hb nb
          · have e2 := (ok' _ _ (un.frzs _ _ _ z)).1
            cases ha.symm.trans e
            exact e2
      have grown : ∀ p ∈ cs, ∃ more : Array Value, s'.heap.get? p.2 = some { cls := .none, data := .fields more } := fun p hp => by
        obtain ⟨more, z⟩ := un.tbls p.2 #[] (atT p hp)
        exact ⟨_, ok' p.2 _ z⟩
      refine ⟨rfl, ⟨fun b o e => ?_, fun b o e => ?_⟩, os, bare⟩
      · by_cases hb : b ∈ cs.map (·.2)
        · obtain ⟨p, hp, rfl⟩ := List.mem_map.mp hb
          obtain ⟨more, hm⟩ := grown p hp
          cases (hT p hp).symm.trans e
          exact .inr (.inl ⟨((C p hp).tab (hT p hp)).isCodeTable, rfl, #[], more, rfl, by rw [Array.empty_append]; exact hm⟩)
        · exact .inl (old b o hb e)
      · by_cases hb : b ∈ cs.map (·.2)
        · obtain ⟨p, hp, rfl⟩ := List.mem_map.mp hb
          obtain ⟨more, hm⟩ := grown p hp
          exact ⟨_, hm⟩
        · exact ⟨o, old b o hb e⟩
end
/-- a law whose def is a PromG, with tables -/
theorem walk_ofGT {l : PySem.W.OpenLaw} {n k : Nat} {q : Program} {loose : List Str} {XP : (Str → Option Value) → Heap → Prop} {YP : World → Heap → Prop} {d : DefRec} {x : Str}
    (hn : l.most = some n) (hn2 : n ≤ sizeLine) (hdf : d.params.defaults = []) (room : Room k callerA)
    (F : ∀ (w : World) (mg : Str → Option Value) (fa : Addr) (h : Heap), YP w h → h.Ns mainGlobals mg → mg d.name = some (.ref fa) →
      ∃ (K : PySem.W.Frag) (fd : FuncData) (sp : Sp) (cs : List (Addr × Addr)), K.In h ∧ (∀ p ∈ cs, h.get? p.2 = some { cls := .none, data := .fields #[] }) ∧ (∀ p ∈ cs, K.lookup p.2 = none) ∧ (∀ p ∈ cs, PySem.W.CodeHd h p.1 p.2) ∧ (∀ (s : Shared) (u : Value), BindsTo s fd ⟨[u], []⟩ [(x, u)]) ∧
        (∀ (H : Hp) (a : Addr) (ns : List Int), ns.length ≤ n → (∀ z ∈ ns, Builtin.Int.intBits z ≤ 1048576) → (∀ p ∈ cs, H p.2 = some (.tbl #[])) → SqL K H a (ns.map V.int) → sp [.ref a] H (fun v _ => v = .bl true) fun _ _ _ => False) ∧
        ∀ base : Heap, K.In base → base.Ns mainGlobals mg → (∀ p ∈ cs, LamX.TabB base mg p.1 p.2) → FnG l.prog w K mg base k fa fd [x] sp) :
    PySem.W.WalkO q loose XP YP l.row.toRowW d [] (fun f vs => PySem.call f vs) := by
  refine Att.attach_callB hn hdf fun w sA sB mg mb fa o pm cd doc a vs ns G Y ho hd hcd hmg hobj hints hlen hbits hg => ?_
  obtain ⟨K, fd, sp, cs, KX, hT, nT, C, b1, want, hF⟩ := F w mg fa _ Y G.T.g hmg
  exact law_callGT KX G.T.g G.T.b G.T.builtins G.T.nolimit hg hT nT C G.T.bmain hobj hints (Nat.le_trans hlen hn2) room hF b1 (fun H hH hS => want H a ns hlen hbits hH hS)
end Sz
/-! a lambda handed to a def that catches what it raises -/
namespace Sz
open PySem PySem.Spec PyProof.Rows L2
theorem takes_len {X : Cx} {W : WX} (t : Takes X W) : Takes X (fun c d σ H => σ.length = X.N.length → W c d σ H) := fun u s' ⟨a, B, sI, pins, σ, H, cls, d, e, I, nb, up, sky, na, os, ag, w⟩ =>
  t u s' ⟨a, B, sI, pins, σ, H, cls, d, e, I, nb, up, sky, na, os, ag, w I.len⟩
/-- what is wished for may be had by something stronger -/
def tWeak (t : TE) : TE := fun σ H Q => ∃ K : VK, (∀ v H', K v H' → Q v H') ∧ t σ H K
theorem pe_weak {X : Cx} {e : Expr} {t : TE} (h : PE X e t) : PE X e (tWeak t) := ⟨fun pins s σ H Q I ⟨K, hK, ht⟩ => wpAny_mono (h.run pins s σ H K I ht) (fun _ _ ⟨v, H', J, r, q⟩ => ⟨v, H', J, r, hK v H' q⟩) (fun _ _ z => z)⟩
/-- the def that calls what it got, whatever its address -/
def Gives (X : Cx) (Ng : List Str) (x : Str) (st : Stmt) (a : Str) (TT : (XK → Hp → VK → Prop) → Hp → VK → Prop) : Prop := ∀ (g : Addr) (cdg : Value), LamX.GivesTo X Ng x (defScope st) g cdg (defBody st) a (X.env.qual ++ "<lambda>") TT
section
variable {X : Cx}
/-- x(lambda: body) -/
theorem pe_lamP {T : List (Addr × Str)} {TT : (XK → Hp → VK → Prop) → Hp → VK → Prop} {x a : Str} {st : Stmt} {c P : Addr} {k : Nat} {Ng : List Str} {params : Arguments} {body : Expr} {scope : Scope} {t : XK → TE} {p lpos pos : Pos} (D : DefAt X.K X.mg x st) (hg : Gl X x) (Sg : FnScope Ng [a] (defScope st))
    (hb : ∀ (kV doc pm : Value) (an : Option Addr) (cdv ct : Value) (us : List Value), us.length = 1 → bindArgs (PySem.W.fnOf x x (defArgs st) (defBody st) (defScope st) .none kV doc pm an cdv ct) ⟨us, []⟩ = pure ([a].zip us))
    (hNg : Ng[0]? = some a) (hva : Vis (defScope st) a) (hG : Gives X Ng x st a TT) (TB : LamX.TabB X.base X.mg c P) (hcode : X.env.code = .ref c) (hmT : (P, X.env.qual ++ "<lambda>") ∈ T) (hu : ∀ p ∈ T, p.1 = P → p.2 = X.env.qual ++ "<lambda>") (hr : Room (k + 2) X.A)
    (L : LamX.LamS X.env.scope scope)
    (hbody : ∀ (A : Around) (outer : List Env) (s : Shared) (H : Hp) (E : XK) (f c' : Addr), Room k (A.deeper (LamX.lamEnv X scope s.heap.objs.size f c')) → PE (LamX.lamCx X A outer s H E scope f c') body (t E))
    (hdef : defaultsOf params X.env = ([], []) := by rfl)
    (hbind : ∀ (q : Str) (cl : List (Str × Addr)) (pm cv ctv : Value), bindArgs (PySem.W.kla_fn "<lambda>" q params body scope cl pm cv ctv) ⟨[], []⟩ = pure [] := by intros; rfl)
    (hdb : (x == ("__debug__" : Str)) = false := by decide) (hd : (a == ("__debug__" : Str)) = false := by decide) (hcd : (a == ("__classdict__" : Str)) = false := by decide) :
    PE X (.Call (.Name x p) [.Lambda params body scope lpos] [] pos) (LamX.tLam T TT t) := by
  obtain ⟨g, fd, F, hm⟩ := D
  have kp := F.kp
  have bs := F.bindsN (ps := [a]) hb
  obtain ⟨oc, od, dV, kV, doc, pm, an, cdv, ct, osl, rfl, lk, hcd', _, _⟩ := F.ex
  exact LamX.pe_lamcall hg hm kp lk hcd' bs Sg hNg hva (hG g cdv) TB hcode hmT hu hr L hdef hbind hbody hdb hd hcd
end
/-- try: t = a() / except (A, B, C) as e: return h(e) / return ("told", t) -/
def TCaught (K : PySem.W.Frag) (cs : List Value) (sp : Addr × Obj → Sp) : (XK → Hp → VK → Prop) → Hp → VK → Prop := fun tl H Q =>
  tl (fun cls d H' => PySem.W.exmAny K cls cs = some true ∧ ∀ a oe, Zc cls d oe → (∃ vs, oe.data = .fields vs) → H' a = none → sp (a, oe) [.ref a] H' Q E0) H (fun v H' => ∀ t, H' t = none → Q (.ref t) (upd H' t (.tup [.str "told", v])))
theorem caught_gives {X : Cx} {x a t e h : Str} {st sth : Stmt} {A1 A2 A3 : Str} {c1 c2 c3 : Value} {k : Nat} {ps : List Str} {sp : Addr × Obj → Sp} {j : Nat} {p1 p2 p3 p4 p5 p6 p7 p8 p9 p10 p11 p12 p13 p14 p15 p16 p17 p18 : Pos} {x1 x2}
    (hN : [a, t, e].Nodup) (hbd : defBody st = [.Try [.Assign [.Name t p1] (.Call (.Name a p2) [] [] p3) p4] [.ExceptHandler (some (.Tuple [.Name A1 p5, .Name A2 p6, .Name A3 p7] x1 p8)) (some e) [.Return (some (.Call (.Name h p9) [.Name e p10] [] p11)) p12] p13] [] [] p14,
      .Return (some (.Tuple [.Constant (.str "told") j p15, .Name t p16] x2 p17)) p18])
    (ka : (defScope st).names.lookup a = some .local) (kt : (defScope st).names.lookup t = some .local) (ke : (defScope st).names.lookup e = some .local) (g1 : (defScope st).names.lookup A1 = some .globalImplicit) (g2 : (defScope st).names.lookup A2 = some .globalImplicit) (g3 : (defScope st).names.lookup A3 = some .globalImplicit)
    (gh : (defScope st).names.lookup h = some .globalImplicit) (m1 : X.mg A1 = some c1) (m2 : X.mg A2 = some c2) (m3 : X.mg A3 = some c3) (G : PromP X.prog X.w X.K X.mg X.base k h sth ps sp) (gd : X.A.guards = some []) (hr : Room (k + 1) X.A)
    (d1 : (A1 == ("__debug__" : Str)) = false := by decide) (d2 : (A2 == ("__debug__" : Str)) = false := by decide) (d3 : (A3 == ("__debug__" : Str)) = false := by decide) (d4 : (h == ("__debug__" : Str)) = false := by decide)
    (d5 : (e == ("__debug__" : Str)) = false := by decide) (d6 : (e == ("__classdict__" : Str)) = false := by decide) (d7 : (t == ("__debug__" : Str)) = false := by decide) (d8 : (t == ("__classdict__" : Str)) = false := by decide) :
    Gives X [a, t, e] x st a (TCaught X.K [c1, c2, c3] sp) := by
  intro g cdg f c' s H Q tl act hc hq
  rw [hbd]
  refine ⟨_, pss_cons (ps_tryA (X := (cxOf C8.CX0 X.prog X.w X.K X.mg X.base [a, t, e] x (defScope st) g cdg X.A X.stack s H C8.E0).nox) (Wout := fun _ _ _ _ => False)
    (tb := fun W D σ H => ∃ Ech : XK, (∀ cls d σ' H', Ech cls d H' → σ'.length = 3 → W cls d σ' H') ∧ σ[0]? = some (some (.ref f)) ∧ H c' = some (LamX.CodeO c' (X.env.qual ++ "<lambda>")) ∧ ∃ K : VK, (∀ v H', K v H' → D.nx (σ.set 1 (some v)) H') ∧ tl Ech H K)
    rfl rfl hN L2.takes0 (fun W pn xe tk _ => ?_)
    (ClOk.cons (i := 2) (test_tup g1 g2 g3 m1 m2 m3 d1 d2 d3) rfl ke (fun a' oe cls d pn _ _ => pss_one (ps_ret (pe_callE G gd ⟨?_, ?_⟩ gh rfl (pa_cons (pe_var (i := 2) rfl (.inl ke) d5 d6) pa_nil) d4))) .nil))
    (pss_one (ps_ret (pe_tup (pa_cons pe_str (pa_cons (pe_var (i := 1) rfl (.inl kt) d7 d8) pa_nil))))), ?_⟩
  · constructor
    intro pins s' σ H' D I ⟨Ech, hW, h1, h2, K, hK, h3⟩
    have hp := act _ pn xe Ech p2 p3 (takes_len tk) (fun cls d σ' H' z hl => hW cls d σ' H' z hl)
    exact (pss_one (ps_set (i := 1) (pos := p4) hN rfl (.inl kt) (pe_weak hp))).run pins s' σ H' D I ⟨K, hK, h1, h2, h3⟩
  · exact (hr.deeper _).dp
  · exact (hr.deeper _).un
  · refine ⟨_, fun cls d σ' H' z hl => ?_, rfl, hc, _, fun v H' z => ?_, hq⟩
    rotate_left
    · exact ⟨v, rfl, by show 2 ≤ sizeLine; decide, z⟩
    obtain ⟨z1, z2⟩ := z
    refine ⟨true, z1, fun _ a' oe hz hv na => ?_, fun z => Bool.noConfusion z⟩
    refine ⟨.ref a', ?_, z2 a' oe hz hv na⟩
    show (σ'.set 2 (some (.ref a')))[2]? = _
    rw [List.getElem?_set_self (by omega)]
/-- what a callee lets out of the lambda's body -/
theorem LamX_pass {X : Cx} {A : Around} {outer : List Env} {s : Shared} {H : Hp} {E : XK} {scope : Scope} {f c' : Addr} : Passes (L2.CX (LamX.lamCx X A outer s H E scope f c').prog (LamX.lamCx X A outer s H E scope f c').w) (LamX.lamCx X A outer s H E scope f c') E := passes_call (takes_of rfl rfl rfl rfl) (fun _ _ _ _ h => h)
theorem gl_lam {X : Cx} {A : Around} {outer : List Env} {s : Shared} {H : Hp} {E : XK} {scope : Scope} {f c' : Addr} {x : Str} (h : scope.names.lookup x = some .globalImplicit) : Gl (LamX.lamCx X A outer s H E scope f c') x := h
/-- a def of the text whose code object is known by its name -/
def DefC (K : PySem.W.Frag) (mg : Str → Option Value) (x : Str) (st : Stmt) : Prop := ∃ fd, FunD K x x (defArgs st) (defBody st) (defScope st) [] [] (He.fAd K (x, none)) fd ∧ mg x = some (.ref (He.fAd K (x, none)))
theorem PromG.ofT {P : Program} {w : World} {K : PySem.W.Frag} {mg : Str → Option Value} {base : Heap} {x : Str} {st : Stmt} {ps N : List Str} {sp : Sp} {k : Nat} (D : DefC K mg x st) (S : FnScope N ps (defScope st)) (len : ∀ vs H Q E, sp vs H Q E → vs.length = ps.length)
    (hb : ∀ (kV doc pm : Value) (an : Option Addr) (cdv ct : Value) (us : List Value), us.length = ps.length → bindArgs (PySem.W.fnOf x x (defArgs st) (defBody st) (defScope st) .none kV doc pm an cdv ct) ⟨us, []⟩ = pure (ps.zip us))
    (hbody : ∀ (f : Addr) (A : Around) (outer : List Env) (s : Shared) (H : Hp) (vs : List V) (Q : VK) (E : XK), Room k (A.deeper (envOfC x (defScope st) s.heap.objs.size f (.ref (He.codeOf K (x, none))))) → (A.deeper (envOfC x (defScope st) s.heap.objs.size f (.ref (He.codeOf K (x, none))))).guards = some [] → sp vs H Q E →
      ∃ t, PSs (cxOf CX0 P w K mg base N x (defScope st) f (.ref (He.codeOf K (x, none))) A outer s H E).nox (defBody st) t ∧ t { nx := fun _ H' => Q .non H', rt := Q } (start N vs) H) :
    PromG P w K mg base (k + 1) x st ps sp := by
  obtain ⟨fd, F, hm⟩ := D
  have key : ∀ cdv, (∃ (oc : Value) (od : Option Addr) (dV kV doc pm : Value) (an : Option Addr) (ct : Value) (osl : Array (Option Value)), K.lookup (He.fAd K (x, none)) = some ⟨oc, od, .func (PySem.W.fnOf x x (defArgs st) (defBody st) (defScope st) dV kV doc pm an cdv ct), osl⟩ ∧ PySem.W.codeIn K cdv x = true) → cdv = .ref (He.codeOf K (x, none)) := by
    rintro cdv ⟨oc, od, dV, kV, doc, pm, an, ct, osl, lk, hc⟩
    obtain ⟨c, rfl⟩ := He.codeIn_ref hc
    rw [He.codeOf_eq lk rfl]
  obtain ⟨c1, c2, c3, c4, c5, c6, c7, cdv, c9, c10, rfl, look, code, d1, d2⟩ := F.ex
  have e := key cdv ⟨_, _, _, _, _, _, _, _, _, look, code⟩
  subst e
  refine ⟨_, _, ⟨len, fun A outer s H args us vs Q E room gd e0 hbind rel want => ?_⟩, hm, F, F.bindsN hb⟩
  have old : ∀ b o, base.get? b = some o → s.heap.get? b = some o := fun b o e => (e0.bs b o e).1
  have inK : K.In s.heap := e0.mod.kin.keeps old
  have kinds : ∀ y ∈ ps.zip us, (defScope st).names.lookup y.1 = some .local ∨ ((defScope st).names.lookup y.1 = some .cell ∧ ((cellsFrom (s.heap.objs.size + 1) (defScope st).names []).lookup y.1).isSome = true) := by
    rintro ⟨n, v⟩ hy
    have hm : n ∈ ps := (List.of_mem_zip hy).1
    cases S.par n hm with
    | inl z => exact Or.inl z
    | inr z => exact Or.inr ⟨z, PySem.W.cellsFrom_some _ _ _ (.inl z)⟩
  obtain ⟨t, dt, rt⟩ := hbody _ A outer s H vs Q E (room.deeper _) gd want
  have dt := dt.nox
  refine codeAny_call_function room.depth (inK _ _ look) rfl S.co S.gen rfl (PySem.W.codeRec_of inK code) ?_
  refine hbind _ _ _ _ (wpAny_newFunctionEnv_cells S.kind kinds ?_)
  rintro _ rfl s1 ic
  refine ⟨(e0.mod.nolimit.keeps old).keeps ic.toInCall.keep, codeAny_func ?_⟩
  refine wpAny_mono (dt.run [] s1 (start N vs) H _ (inv_start S room.hd e0 (len _ _ _ _ want) rel ic) rt) ?_ (fun _ _ z => z)
  intro fl s' hs
  cases fl with
  | ret u => exact let ⟨v, _, H', J, rv, qv⟩ := hs; ⟨v, H', J.os, J.bare, J.base, J.hok, rv, qv⟩
  | next => exact let ⟨_, H', J, qv⟩ := hs; ⟨.non, H', J.os, J.bare, J.base, J.hok, rfl, qv⟩
  | brk => exact let ⟨_, _, _, qv⟩ := hs; False.elim qv
  | cont => exact let ⟨_, _, _, qv⟩ := hs; False.elim qv
end Sz
/-! error classes of the program by their promises; the table of all error classes -/
namespace Sz
open PySem PySem.Spec PyProof.Rows L2
/-- C(v) makes an error with the field f -/
structure PromE (P : Program) (w : World) (K : PySem.W.Frag) (mg : Str → Option Value) (base : Heap) (k : Nat) (C f : Str) : Prop where
  T : ErrC K (He.ga K C) (He.ma K (He.ga K C) "__init__") f
  mg_ : mg C = some (.ref (He.ga K C))
  ex : ∃ fd ps, FnOk P w K mg base CX0 k (He.ma K (He.ga K C) "__init__") fd ps (spErr K (He.ga K C) (He.ma K (He.ga K C) "__init__") f) ∧ Binds K fd ps []
theorem PromE.of {P : Program} {w : World} {K : PySem.W.Frag} {mg : Str → Option Value} {base : Heap} {C f q p0 p1 : Str} {st : Stmt} {a1 a2 a3 a4 : Pos} (T : ErrC K (He.ga K C) (He.ma K (He.ga K C) "__init__") f) (hm : mg C = some (.ref (He.ga K C))) (D : DefAtM K C "__init__" q st) (S : FnScope [p0, p1] [p0, p1] (defScope st))
    (hbd : defBody st = [.Assign [.Attribute (.Name p0 a1) f a2] (.Name p1 a3) a4]) (l0 : (defScope st).names.lookup p0 = some .local) (l1 : (defScope st).names.lookup p1 = some .local)
    (hb : ∀ (kV doc pm : Value) (an : Option Addr) (cdv ct : Value) (us : List Value), us.length = 2 → bindArgs (PySem.W.fnOf "__init__" q (defArgs st) (defBody st) (defScope st) .none kV doc pm an cdv ct) ⟨us, []⟩ = pure ([p0, p1].zip us))
    (d0 : (p0 == ("__debug__" : Str)) = false := by decide) (d1 : (p1 == ("__debug__" : Str)) = false := by decide) (e0 : (p0 == ("__classdict__" : Str)) = false := by decide) (e1 : (p1 == ("__classdict__" : Str)) = false := by decide) : PromE P w K mg base 1 C f := by
  obtain ⟨fd, F⟩ := D
  refine ⟨T, hm, fd, [p0, p1], F.ok (k := 0) S (fun vs H Q E h => ?_) (fun cdv A outer s H vs Q E hr h => ?_), F.bindsN (ps := [p0, p1]) hb⟩
  · obtain ⟨a, v, rfl, _⟩ := h
    rfl
  · obtain ⟨a, v, rfl, T', ha, k⟩ := h
    rw [hbd]
    exact ⟨_, pss_one (ps_errFld (pe_var (i := 0) rfl (.inl l0) d0 e0) (pe_var (i := 1) rfl (.inl l1) d1 e1)), v, rfl, .ref a, rfl, a, _, _, rfl, T', ha, fun dx h1 h2 => k dx h1 h2⟩
section
variable {X : Cx} {x f : Str} {e : Expr} {te : TE} {k : Nat} {p pos rpos : Pos} {W : WX}
/-- raise C(e) -/
theorem ps_raiseE (G : PromE X.prog X.w X.K X.mg X.base k x f) (hr : Room (k + 1) X.A) (hg : Gl X x) (tk : Takes X W) (he : PE X e te) (hc : X.calm = true := by rfl)
    (hdb : (x == ("__debug__" : Str)) = false := by decide) (hst : starEach [e] X.env = (false, eval e X.env) :: starEach [] X.env := by rfl) (hpl : (backTo pos (starEach [] X.env)).any (·.1) = false := by rfl) :
    PS X (.Raise (some (.Call (.Name x p) [e] [] pos)) none rpos) (fun _ σ H => te σ H fun v H1 => ∀ d, H1 d = none → W (.ref (He.ga X.K x)) (some d) σ (upd H1 d (.xd [(f, v)]))) := by
  obtain ⟨fd, ps, F, b⟩ := G.ex
  exact ps_raise hc tk (pmk_err G.T F b hr hg G.mg_ he hdb hst hpl)
end
/-- what a callee lets out, this def lets out -/
theorem passX {P : Program} {w : World} {K : PySem.W.Frag} {mg : Str → Option Value} {base : Heap} {N : List Str} {q : Str} {sc : Scope} {f : Addr} {cdv : Value} {A : Around} {outer : List Env} {s : Shared} {H : Hp} {E : XK} :
    Passes (L2.CX P w) (cxOf (L2.CX P w) P w K mg base N q sc f cdv A outer s H E) E := passes_call (takes_of rfl rfl rfl rfl) (fun _ _ _ _ h => h)
/-! ### facts by looking -/
/-- the built-in base: 0 ValueError, 1 LookupError, 2 ArithmeticError -/
def ebase : Nat → String
  | 0 => "ValueError"
  | 1 => "LookupError"
  | _ => "ArithmeticError"
def etail (b : Nat) : List Value := [.type (ebase b), .type "Exception", .type "BaseException", .type "object"]
def errCB (K : PySem.W.Frag) (b : Nat) (C : Addr) (f : Str) : Bool :=
  PySem.W.excInitIn K C (etail b) (ebase b ++ ".__new__") && (PySem.W.excOver K C (etail b) && (He.eqO (PySem.W.findIn K (.ref C) "__setattr__") (some (some (.builtin "object.__setattr__"))) && (He.eqO (PySem.W.takerIn K C f) (some none) &&
  (PySem.W.hasDictIn K C && (decide (PySem.W.subIn K (.ref C) (.type "BaseException") = some true) && (decide (PySem.W.typeIn K (.ref C) = some (.type "type")) && (PySem.W.keepIn K (.ref C) && (He.eqO (PySem.W.findIn K (.ref C) "__init__") (some (some (.ref (He.ma K C "__init__")))) &&
  decide (PySem.W.typeIn K (.ref (He.ma K C "__init__")) = some (.type "function"))))))))))
theorem errCB_ok {K : PySem.W.Frag} {b : Nat} {C : Addr} {f : Str} (h : errCB K b C f = true) : ErrC K C (He.ma K C "__init__") f := by
  obtain ⟨h1, h⟩ := He.ba h
  obtain ⟨h2, h⟩ := He.ba h
  obtain ⟨h3, h⟩ := He.ba h
  obtain ⟨h4, h⟩ := He.ba h
  obtain ⟨h5, h⟩ := He.ba h
  obtain ⟨h6, h⟩ := He.ba h
  obtain ⟨h7, h⟩ := He.ba h
  obtain ⟨h8, h⟩ := He.ba h
  obtain ⟨h9, h10⟩ := He.ba h
  refine ⟨?_, He.eqO_ok h3, He.eqO_ok h4, h5, of_decide_eq_true h6, of_decide_eq_true h7, h8, He.eqO_ok h9, of_decide_eq_true h10⟩
  match b, h1, h2 with
  | 0, h1, h2 => exact ⟨_, _, _, _, PySem.F.excBase_ValueError, PySem.F.store_ValueError, h1, h2⟩
  | 1, h1, h2 => exact ⟨_, _, _, _, PySem.F.excBase_LookupError, PySem.F.store_LookupError, h1, h2⟩
  | n + 2, h1, h2 => exact ⟨_, _, _, _, PySem.F.excBase_ArithmeticError, PySem.F.store_ArithmeticError, h1, h2⟩
/-- the words of all error classes -/
def ewords : List Str := ["NotAWrap", "NotAStack", "NotARoad", "InvalidKind", "InvalidBase", "InvalidLength", "InvalidNumber", "InvalidText", "InvalidRow", "InvalidNumbers", "InvalidWraps", "InvalidSeen", "InvalidDeeds", "NothingToPop", "NothingToUndo", "Busy", "TooFine", "TooManyWraps", "TooLong"]
def ew (i : Nat) : Str := ewords.getD i Str.empty
/-- of which base, by its place -/
def eb (i : Nat) : Nat := if i < 13 then 0 else if i < 16 then 1 else 2
def excCB (K : PySem.W.Frag) (D : Addr) : Bool := He.eqO (PySem.W.findIn K (.ref D) "__getattribute__") (some (some (.builtin "BaseException.__getattribute__"))) && (He.eqO (PySem.W.findIn K (.ref D) "__getattr__") (some none) && (decide (PySem.W.subIn K (.ref D) (.type "BaseException") = some true) && (PySem.W.hasDictIn K D &&
  (He.eqO (PySem.W.findIn K (.ref D) "__class__") (some (some (.builtin "object.__class__"))) && (He.eqO (PySem.W.specialIn K (.builtin "object.__class__") "__get__") (some (some (.builtin "getset_descriptor.__get__"))) && (decide (PySem.W.takesIn K (.builtin "object.__class__") = some true) && decide (PySem.W.mroIn K D (.type "object") = some true)))))))
theorem excCB_ok {K : PySem.W.Frag} {D : Addr} (h : excCB K D = true) : ExcC K D ∧ XfC K D := by
  obtain ⟨h1, h⟩ := He.ba h
  obtain ⟨h2, h⟩ := He.ba h
  obtain ⟨h3, h⟩ := He.ba h
  obtain ⟨h4, h⟩ := He.ba h
  obtain ⟨h5, h⟩ := He.ba h
  obtain ⟨h6, h⟩ := He.ba h
  obtain ⟨h7, h8⟩ := He.ba h
  exact ⟨⟨He.eqO_ok h1, He.eqO_ok h2, of_decide_eq_true h3, h4, He.eqO_ok h5, He.eqO_ok h6, of_decide_eq_true h7, of_decide_eq_true h8⟩, He.eqO_ok h1, He.eqO_ok h2, of_decide_eq_true h3, h4⟩
def ebs : List Str := ["Misfit", "Untimely", "Excess"]
/-- all that is asked of the error class at place i -/
def etabB (K : PySem.W.Frag) (i : Nat) : Bool := excCB K (He.ga K (ew i)) && ((List.range 19).all (fun j => decide (PySem.W.kitOne K (.ref (He.ga K (ew i))) (.ref (He.ga K (ew j))) = some (decide (i = j)))) &&
  ((List.range 3).all (fun j => decide (PySem.W.kitOne K (.ref (He.ga K (ew i))) (.ref (He.ga K (ebs.getD j Str.empty))) = some (decide (eb i = j))) && decide (PySem.W.kitOne K (.ref (He.ga K (ew i))) (.type (ebase j)) = some (decide (eb i = j)))) &&
  (([("value" : Str), "index", "limit"]).all (fun f => He.eqO (PySem.W.findIn K (.ref (He.ga K (ew i))) f) (some none)) && decide (PySem.W.exmAny K (.ref (He.ga K (ew i))) [.ref (He.ga K "Misfit"), .ref (He.ga K "Untimely"), .ref (He.ga K "Excess")] = some true))))
structure ErrTab (K : PySem.W.Frag) : Prop where
  exc : ∀ i < 19, ExcC K (He.ga K (ew i))
  xf : ∀ i < 19, XfC K (He.ga K (ew i))
  kit : ∀ i < 19, ∀ j < 19, PySem.W.kitOne K (.ref (He.ga K (ew i))) (.ref (He.ga K (ew j))) = some (decide (i = j))
  kb : ∀ i < 19, ∀ j < 3, PySem.W.kitOne K (.ref (He.ga K (ew i))) (.ref (He.ga K (ebs.getD j Str.empty))) = some (decide (eb i = j))
  ko : ∀ i < 19, ∀ j < 3, PySem.W.kitOne K (.ref (He.ga K (ew i))) (.type (ebase j)) = some (decide (eb i = j))
  no : ∀ i < 19, ∀ f ∈ [("value" : Str), "index", "limit"], PySem.W.findIn K (.ref (He.ga K (ew i))) f = some none
  any : ∀ i < 19, PySem.W.exmAny K (.ref (He.ga K (ew i))) [.ref (He.ga K "Misfit"), .ref (He.ga K "Untimely"), .ref (He.ga K "Excess")] = some true
theorem etab_ok {K : PySem.W.Frag} (h : (List.range 19).all (etabB K) = true) : ErrTab K := by
  have g : ∀ i < 19, etabB K i = true := fun i hi => List.all_eq_true.mp h i (List.mem_range.mpr hi)
  have k : ∀ i < 19, _ := fun i hi => He.ba (g i hi)
  refine ⟨fun i hi => (excCB_ok (He.ba (g i hi)).1).1, fun i hi => (excCB_ok (He.ba (g i hi)).1).2, fun i hi j hj => ?_, fun i hi j hj => ?_, fun i hi j hj => ?_, fun i hi f hf => ?_, fun i hi => ?_⟩
  · exact of_decide_eq_true (List.all_eq_true.mp (He.ba (He.ba (g i hi)).2).1 j (List.mem_range.mpr hj))
  · exact of_decide_eq_true (He.ba (List.all_eq_true.mp (He.ba (He.ba (He.ba (g i hi)).2).2).1 j (List.mem_range.mpr hj))).1
  · exact of_decide_eq_true (He.ba (List.all_eq_true.mp (He.ba (He.ba (He.ba (g i hi)).2).2).1 j (List.mem_range.mpr hj))).2
  · exact He.eqO_ok (List.all_eq_true.mp (He.ba (He.ba (He.ba (He.ba (g i hi)).2).2).2).1 f hf)
  · exact of_decide_eq_true (He.ba (He.ba (He.ba (He.ba (g i hi)).2).2).2).2
end Sz
/-! repr(x) by an own __repr__ -/
namespace Sz
open PySem PySem.Spec PyProof.Rows L2
section
variable {X : Cx} {CX : CXT} {k n : Nat} {C : Str} {ps : List Str} {sp : Sp} {E : XK}
theorem cr_reprO (G : PromM X.prog X.w X.K X.mg X.base CX k C "__repr__" ps sp) (hr : Room (k + 1) X.A) (hx : Passes CX X E) :
    CallR X (.builtin "repr") (fun xs H Q => ∃ p dx fs, xs = [.ref p] ∧ H p = some (.ins (He.ga X.K C) dx fs) ∧ sp [.ref p] H (fun v H2 => ∃ y : Str, v = .str y ∧ Q (.str y) H2) E) := by
  intro pins s σ H xs us Q I r h
  obtain ⟨p, dx, fs, rfl, hp, h⟩ := h
  obtain ⟨u, rfl, ru⟩ := vals1 r
  obtain rfl : u = Value.ref p := ru
  obtain ⟨m1, O1, _⟩ := ins_get I.hok hp
  obtain ⟨od1, J1, _⟩ := O1.look
  obtain ⟨m, hF⟩ := I.fr
  refine PySem.W.repr_K hr.in1.units0 hF I.ok.mod.kin J1 G.me.at_ G.me.fn ?_
  exact wpAny_mono (run_own G hx (A := X.A.in1) ⟨hr.in1, rfl⟩ (vs := [.ref p]) (us := [.ref p]) I (.cons rfl .nil) h) (fun v s' z => strBack_of z) fun _ _ z => z
end
end Sz
/-! what isinstance says of things of many kinds, own classes among them; methods that raise, methods in the suite that handles an error -/
namespace Sz
open PySem PySem.Spec PyProof.Rows L2
def btys : List String := ["int", "bool", "NoneType", "str", "list", "tuple", "dict", "float"]
structure KitTab (K : PySem.W.Frag) (Cs : List Str) : Prop where
  bt : ∀ T ∈ btys, ∀ C ∈ Cs, PySem.W.kitOne K (.type T) (.ref (He.ga K C)) = some false
  tb : ∀ C ∈ Cs, ∀ T ∈ btys, PySem.W.kitOne K (.ref (He.ga K C)) (.type T) = some false
  tt : ∀ C ∈ Cs, ∀ D ∈ Cs, PySem.W.kitOne K (.ref (He.ga K C)) (.ref (He.ga K D)) = some (decide (C = D))
def kitTabB (K : PySem.W.Frag) (Cs : List Str) : Bool :=
  (btys.all fun T => Cs.all fun C => decide (PySem.W.kitOne K (.type T) (.ref (He.ga K C)) = some false)) &&
  ((Cs.all fun C => btys.all fun T => decide (PySem.W.kitOne K (.ref (He.ga K C)) (.type T) = some false)) &&
  (Cs.all fun C => Cs.all fun D => decide (PySem.W.kitOne K (.ref (He.ga K C)) (.ref (He.ga K D)) = some (decide (C = D)))))
theorem kitTab_ok {K : PySem.W.Frag} {Cs : List Str} (h : kitTabB K Cs = true) : KitTab K Cs := by
  obtain ⟨h1, h⟩ := He.ba h
  obtain ⟨h2, h3⟩ := He.ba h
  exact ⟨fun T hT C hC => of_decide_eq_true (List.all_eq_true.mp (List.all_eq_true.mp h1 T hT) C hC), fun C hC T hT => of_decide_eq_true (List.all_eq_true.mp (List.all_eq_true.mp h2 C hC) T hT), fun C hC D hD => of_decide_eq_true (List.all_eq_true.mp (List.all_eq_true.mp h3 C hC) D hD)⟩
theorem tyX_same {K : PySem.W.Frag} {H H' : Hp} {v : V} {t : Value} (s : Same H H') (h : TyX K H v t) : TyX K H' v t := by
  cases h with
  | base h =>
    cases h with
    | non => exact .base .non
    | bl x => exact .base (.bl x)
    | int i => exact .base (.int i)
    | str x => exact .base (.str x)
    | flt x => exact .base (.flt x)
    | lst e => exact .base (.lst (s _ _ e))
    | frz e => exact .base (.frz (s _ _ e))
    | tup e => exact .base (.tup (s _ _ e))
    | dK e => exact .base (.dK (s _ _ e))
    | dT e => exact .base (.dT (s _ _ e))
    | ins e a b c d f => exact .base (.ins (s _ _ e) a b c d f)
  | byt b => exact .byt b
  | set e => exact .set (s _ _ e)
  | kList e c => exact .kList e c
  | kTuple e c => exact .kTuple e c
  | kDict e c => exact .kDict e c
  | fTuple e => exact .fTuple (s _ _ e)
  | fDict e => exact .fDict (s _ _ e)
section
variable {P : Program} {w : World} {K : PySem.W.Frag} {mg : Str → Option Value} {base : Heap}
/-- a method that may raise -/
theorem PromM.ofX {C m q : Str} {st : Stmt} {ps N : List Str} {sp : Sp} {k : Nat} (cl : Cls K (He.ga K C)) (me : Meth K (He.ga K C) m (He.ma K (He.ga K C) m)) (D : DefAtM K C m q st) (S : FnScope N ps (defScope st)) (len : ∀ vs H Q E, sp vs H Q E → vs.length = ps.length)
    (hb : ∀ (kV doc pm : Value) (an : Option Addr) (cdv ct : Value) (us : List Value), us.length = ps.length → bindArgs (PySem.W.fnOf m q (defArgs st) (defBody st) (defScope st) .none kV doc pm an cdv ct) ⟨us, []⟩ = pure (ps.zip us))
    (hbody : ∀ (f : Addr) (cdv : Value) (A : Around) (outer : List Env) (s : Shared) (H : Hp) (vs : List V) (Q : VK) (E : XK), Room k (A.deeper (envOfC q (defScope st) s.heap.objs.size f cdv)) → sp vs H Q E →
      ∃ t, PSs (cxOf (L2.CX P w) P w K mg base N q (defScope st) f cdv A outer s H E) (defBody st) t ∧ t { nx := fun _ H' => Q .non H', rt := Q } (start N vs) H) :
    PromM P w K mg base (L2.CX P w) (k + 1) C m ps sp := by
  obtain ⟨fd, F⟩ := D
  exact ⟨cl, me, fd, F.ok S len (fun cdv A outer s H vs Q E hr hs => hbody _ cdv A outer s H vs Q E hr hs), F.bindsN hb⟩
end
/-! ### a method called in the suite that handles an error -/
structure PromMP (P : Program) (w : World) (K : PySem.W.Frag) (mg : Str → Option Value) (base : Heap) (k : Nat) (C m : Str) (ps : List Str) (sp : Sp) : Prop where
  cl : Cls K (He.ga K C)
  me : Meth K (He.ga K C) m (He.ma K (He.ga K C) m)
  ex : ∃ fd, FnP P w K mg base k (He.ma K (He.ga K C) m) fd ps (fun _ => sp) ∧ Binds K fd ps []
theorem PromMP.of {P : Program} {w : World} {K : PySem.W.Frag} {mg : Str → Option Value} {base : Heap} {C m q : Str} {st : Stmt} {ps N : List Str} {sp : Sp} {k : Nat} (cl : Cls K (He.ga K C)) (me : Meth K (He.ga K C) m (He.ma K (He.ga K C) m)) (D : DefAtM K C m q st) (S : FnScope N ps (defScope st)) (len : ∀ vs H Q E, sp vs H Q E → vs.length = ps.length)
    (hb : ∀ (kV doc pm : Value) (an : Option Addr) (cdv ct : Value) (us : List Value), us.length = ps.length → bindArgs (PySem.W.fnOf m q (defArgs st) (defBody st) (defScope st) .none kV doc pm an cdv ct) ⟨us, []⟩ = pure (ps.zip us))
    (hbody : ∀ (f : Addr) (cdv : Value) (A : Around) (outer : List Env) (s : Shared) (H : Hp) (vs : List V) (Q : VK) (E : XK) (p : Addr × Obj), L2H.RoomH k (A.deeper (envOfC q (defScope st) s.heap.objs.size f cdv)) → (A.deeper (envOfC q (defScope st) s.heap.objs.size f cdv)).guards = some [] → sp vs H Q E →
      ∃ t, PSs (L2H.cxH CX0 P w K mg base N q (defScope st) f cdv A outer s H E p).nox (defBody st) t ∧ t { nx := fun _ H' => Q .non H', rt := Q } (start N vs) H) :
    PromMP P w K mg base (k + 1) C m ps sp := by
  obtain ⟨fd, F⟩ := D
  exact ⟨cl, me, fd, fnP_of F S (fun p vs H Q E h => len vs H Q E h) (fun cdv A outer s H vs Q E p hr hg hs => hbody _ cdv A outer s H vs Q E p hr hg hs), F.bindsN hb⟩
section
variable {X : Cx} {k : Nat} {C : Str} {ps : List Str} {sp : Sp} {a : Addr} {oe : Obj}
/-- repr(x) by an own __repr__, while an error is handled -/
theorem cr_reprOP (G : PromMP X.prog X.w X.K X.mg X.base k C "__repr__" ps sp) (gd : X.A.guards = some []) (hr : L2H.RoomH (k + 1) X.A) (hp : (a, oe) ∈ X.pn) (hs : X.stack = X.env :: X.outer) :
    CallR X (.builtin "repr") (fun xs H Q => ∃ p dx fs, xs = [.ref p] ∧ H p = some (.ins (He.ga X.K C) dx fs) ∧ sp [.ref p] H (fun v H2 => ∃ y : Str, v = .str y ∧ Q (.str y) H2) E0) := by
  intro pins s σ H xs us Q I r h
  obtain ⟨p, dx, fs, rfl, hpp, h⟩ := h
  obtain ⟨u, rfl, ru⟩ := vals1 r
  obtain rfl : u = Value.ref p := ru
  obtain ⟨m1, O1, _⟩ := ins_get I.hok hpp
  obtain ⟨od1, J1, _⟩ := O1.look
  obtain ⟨m, hF⟩ := I.fr
  obtain ⟨fd, F, b⟩ := G.ex
  have pin : L2H.PinOk X.stack H s (a, oe) := by
    obtain ⟨p1, p2, p3, p4, p5⟩ := I.pin (a, oe) (List.mem_append_left _ hp)
    refine ⟨p1, p2, fun z => ?_, p5⟩
    rw [hs] at z
    obtain ⟨en, hen, q⟩ := List.mem_filterMap.mp z
    rcases List.mem_cons.mp hen with z | z
    · subst z
      have nf := I.ok.stk
      rcases nf with nf | ⟨_, nf⟩
      · have nf : X.stack = X.outer := nf
        rw [hs] at nf
        exact absurd (congrArg List.length nf) (by simp)
      · have nf : X.env.frame = some X.env.locals := nf
        rw [nf] at q
        exact p3 (Option.some.inj q).symm
    · exact p4 (List.mem_filterMap.mpr ⟨en, z, q⟩)
  have e0 : Env0 X.prog X.w X.K X.mg X.base X.A.in1 X.stack s H := by
    have e := I.env0
    exact ⟨e.frames, e.mod, e.bs, e.bsz, e.funs, e.frf, e.hok, e.bare⟩
  have hl := F.len (a, oe) _ _ _ _ h
  refine PySem.W.repr_K (by have := hr.un; show X.A.units + 1 < cLine; omega) hF I.ok.mod.kin J1 G.me.at_ G.me.fn ?_
  have run : wpAny (model X.prog X.w) X.A.in1 (call (.ref (He.ma X.K (He.ga X.K C) "__repr__")) [.ref p]) (EP X pins σ (fun v H2 => ∃ y : Str, v = .str y ∧ Q (.str y) H2)) X.xe s := by
    refine wpAny_call (codeAny_mono (F.run X.A.in1 X.stack s H ⟨[.ref p], []⟩ [.ref p] [.ref p] _ E0 (a, oe) ⟨by have := hr.dp; show X.A.depth + 3 * k + 5 < _; omega, by have := hr.un; show X.A.units + 1 + 16 * k + 200 < _; omega⟩ gd pin e0 (by
      have := b s [.ref p] I.kIn (by simpa using hl)
      simpa using this) (.cons rfl .nil) h) fun rr s' hq => ?_)
    cases rr with
    | error e => exact False.elim hq
    | ok fl =>
      cases fl with
      | ret v =>
        obtain ⟨z, H', I', rz, q⟩ := I.after hq
        exact ⟨z, H', I', rz, q⟩
      | next => exact False.elim hq
      | brk => exact False.elim hq
      | cont => exact False.elim hq
  exact wpAny_mono run (fun v s' z => strBack_of z) fun _ _ z => z
end
/-! ### what follows a statement, said once -/
def tMid (t : TS) : TS := fun D σ H => ∃ P : L2.St → Hp → Prop, (∀ σ' H', P σ' H' → D.nx σ' H') ∧ t { D with nx := P } σ H
theorem ps_mid {X : Cx} {s : Stmt} {t : TS} (h : PS X s t) : PS X s (tMid t) := by
  refine ⟨fun pins s0 σ H D I ⟨P, hP, ht⟩ => wpAny_mono (h.run pins s0 σ H { D with nx := P } I ht) (fun fl s' z => ?_) fun _ _ z => z⟩
  cases fl with
  | next => exact let ⟨σ', H', J, q⟩ := z; ⟨σ', H', J, hP σ' H' q⟩
  | ret u => exact z
  | brk => exact z
  | cont => exact z
end Sz
/-! reading texts: the kinds among the keys, words of figures -/
namespace Sz
open PySem PySem.Spec PyProof.Rows L2
def kinds7 : List Str := ["plus", "told", "whole", "pieces", "cut", "coded", "filled"]
def keysB (K : PySem.W.Frag) (D : Addr) : Bool := match K.lookup D with
  | some ⟨_, _, .dict es _, _⟩ => es.toList.all fun e => (kinds7.any fun k => e.key.isStr k) && !e.refKey
  | _ => false
theorem isStr_uniq {v : Value} {a b : Str} (h : v.isStr a = true) (g : v.isStr b = true) : a = b := by
  cases v with
  | str x t =>
    have h : (x == a) = true := h
    have g : (x == b) = true := g
    rw [← beq_iff_eq.mp h, ← beq_iff_eq.mp g]
  | _ => cases h
theorem keysB_ok {K : PySem.W.Frag} {D : Addr} (h : keysB K D = true) {z : Str} (hz : z ∉ kinds7) : PySem.W.nsIn K D z = some none := by
  unfold keysB at h
  unfold PySem.W.nsIn
  split at h
  · rename_i c dd es n sl e
    rw [e]
    have key : ∀ x ∈ es.toList, (kinds7.any fun k => x.key.isStr k) = true ∧ x.refKey = false := fun x hx => by
      have := List.all_eq_true.mp h x hx
      rw [Bool.and_eq_true, Bool.not_eq_true'] at this
      exact this
    have h1 : es.toList.find? (·.key.isStr z) = none := by
      rw [List.find?_eq_none]
      intro x hx hs
      obtain ⟨k, hk, ks⟩ := List.any_eq_true.mp (key x hx).1
      exact hz (isStr_uniq hs ks ▸ hk)
    have h2 : es.toList.any (·.refKey) = false := by
      rw [List.any_eq_false]
      intro x hx
      rw [(key x hx).2]
      exact Bool.false_ne_true
    simp only [h1, h2]
    rfl
  · cases h
/-! ### words of figures -/
def dig (c : Nat) : Bool := decide (48 ≤ c ∧ c ≤ 57)
def digV (cs : List Nat) : Int := cs.foldl (fun (a : Int) (c : Nat) => 10 * a + ((c : Int) - 48)) 0
/-- the integer that a word tells, -1 if it tells none -/
def numV (s : Str) : Int := if s = "" then -1 else if s.cps.toList[0]? = some 48 ∧ s ≠ "0" then -1 else if s.cps.toList.all dig = true then digV s.cps.toList else -1
theorem digV_snoc (cs : List Nat) (c : Nat) : digV (cs ++ [c]) = 10 * digV cs + ((c : Int) - 48) := by
  unfold digV
  rw [List.foldl_append]
  rfl
def tens : Str := "0123456789"
theorem tens_dig : ∀ c : Fin 128, decide (c.val ∈ tens.cps.toList) = dig c.val := by decide +kernel
theorem tens_mem (c : Nat) : decide (c ∈ tens.cps.toList) = dig c := by
  by_cases h : c < 128
  · exact tens_dig ⟨c, h⟩
  · have h1 : c ∉ tens.cps.toList := fun hc => by
      have key : ∀ x ∈ tens.cps.toList, x < 128 := by decide +kernel
      exact h (key c hc)
    rw [decide_eq_false h1]
    unfold dig
    rw [decide_eq_false (by omega)]
theorem tens_at : ∀ c : Fin 10, Builtin.Str.occurrences tens ⟨#[48 + c.val]⟩ 0 tens.length 1 = [c.val] := by decide +kernel
/-! ### for and comprehensions over the signs of a text -/
theorem for_str {z : Str} {g : TG} {tb : TS} {D : Ends} {σ : L2.St} {H : Hp} (Pv : Nat → L2.St → Hp → Prop) (h0 : Pv 0 σ H)
    (hs : ∀ i c σ H, z.cps.toList[i]? = some c → Pv i σ H → g (.str ⟨#[c]⟩) σ H fun σ2 H2 => tb { D with nx := Pv (i + 1), ct := Pv (i + 1), bk := D.nx } σ2 H2) (hd : ∀ σ H, Pv z.length σ H → D.nx σ H) :
    ∃ W : Nat → Nat → L2.St → Hp → Prop, (∃ m, W 0 m σ H) ∧ ∀ i m σ H, W i m σ H →
      ((Its z).stop i H ∧ D.nx σ H) ∨ ((Its z).go i H ∧ ∃ N : L2.St → Hp → Prop, (∀ σ' H', N σ' H' → ∃ m', m' < m ∧ W (i + 1) m' σ' H') ∧ ∀ x H', (Its z).yld i H x H' → g x σ H' fun σ2 H2 => tb { D with nx := N, ct := N, bk := D.nx } σ2 H2) := by
  refine ⟨fun i m σ H => m = z.cps.size - i ∧ i ≤ z.cps.size ∧ Pv i σ H, ⟨z.cps.size, by simp, Nat.zero_le _, h0⟩, ?_⟩
  rintro i m σ H ⟨rfl, hi, p⟩
  by_cases hlt : i < z.cps.size
  · refine .inr ⟨hlt, Pv (i + 1), fun σ' H' p' => ⟨z.cps.size - (i + 1), by omega, rfl, hlt, p'⟩, fun x H' y => ?_⟩
    obtain ⟨e, c, hc, y⟩ := y
    subst e
    subst y
    exact hs i c σ _ (by simpa using hc) p
  · have e : i = z.cps.size := by omega
    subst e
    exact .inl ⟨Nat.le_refl _, hd σ H p⟩
theorem lc_str {z : Str} {g : TG} {tt : TT} {te : TE} {vs : List Nat} {σ : L2.St} {H1 : Hp} {D : Addr} {Qd : Hp → Prop} (Pv : Nat → Hp → Prop) (h0 : Pv 0 (upd H1 D (.lst [])))
    (hs : ∀ i c H, z.cps.toList[i]? = some c → Pv i H → g (.str ⟨#[c]⟩) (wipe σ vs) H fun σ2 H2 => wipe σ2 vs = wipe σ vs ∧ tt σ2 H2 fun b H3 =>
      if b = true then te σ2 H3 fun y H4 => ∃ acc, H4 D = some (.lst acc) ∧ acc.length < sizeLine ∧ Pv (i + 1) (upd H4 D (.lst (acc ++ [y]))) else Pv (i + 1) H3) (hd : ∀ H, Pv z.length H → Qd H) :
    ∃ W : Nat → Nat → Hp → Prop, (∃ m, W 0 m (upd H1 D (.lst []))) ∧ ∀ i m H, W i m H →
      ((Its z).stop i H ∧ Qd H) ∨ ((Its z).go i H ∧ ∃ Nx : Hp → Prop, (∀ H', Nx H' → ∃ m', m' < m ∧ W (i + 1) m' H') ∧ ∀ x H', (Its z).yld i H x H' → g x (wipe σ vs) H' fun σ2 H2 => wipe σ2 vs = wipe σ vs ∧ tt σ2 H2 fun b H3 =>
        if b = true then te σ2 H3 fun y H4 => ∃ acc, H4 D = some (.lst acc) ∧ acc.length < sizeLine ∧ Nx (upd H4 D (.lst (acc ++ [y]))) else Nx H3) := by
  refine ⟨fun i m H => m = z.cps.size - i ∧ i ≤ z.cps.size ∧ Pv i H, ⟨z.cps.size, by simp, Nat.zero_le _, h0⟩, ?_⟩
  rintro i m H ⟨rfl, hi, p⟩
  by_cases hlt : i < z.cps.size
  · refine .inr ⟨hlt, Pv (i + 1), fun H' p' => ⟨z.cps.size - (i + 1), by omega, rfl, hlt, p'⟩, fun x H' y => ?_⟩
    obtain ⟨e, c, hc, y⟩ := y
    subst e
    subst y
    exact hs i c _ (by simpa using hc) p
  · have e : i = z.cps.size := by omega
    subst e
    exact .inl ⟨Nat.le_refl _, hd H p⟩
section
variable {X : Cx}
def rIndexS : V → List V → Hp → VK → Prop := fun x xs H Q => ∃ a b i rest, x = .str a ∧ xs = [.str b] ∧ Builtin.Str.occurrences a b 0 a.length 1 = i :: rest ∧ Q (.int (i : Nat)) H
theorem pe_sindex {o e : Expr} {to te : TE} {apos pos : Pos} (ho : PE X o to) (he : PE X e te) (hs : starEach [e] X.env = [(false, eval e X.env)] := by rfl) (hbase : attributeBase o "index" X.env (eval o X.env) = eval o X.env := by rfl) (hline : (apos.endLine == pos.line) = true := by rfl) :
    PE X (.Call (.Attribute o "index" apos) [e] [] pos) (tM1 rIndexS to te) :=
  pe_m1 F.slot_str_index F.type_str_index mt_sindex ho he hs hbase hline
end
/-! ### what a word of figures is, sign by sign -/
theorem one_eq {c d : Nat} : (⟨#[c]⟩ : Str) = ⟨#[d]⟩ ↔ c = d := ⟨fun h => by cases h; rfl, fun h => by rw [h]⟩
theorem numV_empty : numV "" = -1 := rfl
theorem numV_zero {s : Str} (h : s ≠ "") (h0 : s.cps.toList[0]? = some 48) (h1 : s ≠ "0") : numV s = -1 := by
  unfold numV
  rw [if_neg h, if_pos ⟨h0, h1⟩]
theorem numV_all {s : Str} (h : s ≠ "") (h0 : ¬ (s.cps.toList[0]? = some 48 ∧ s ≠ "0")) (ha : ∀ c ∈ s.cps.toList, dig c = true) : numV s = digV s.cps.toList := by
  unfold numV
  rw [if_neg h, if_neg h0, if_pos (List.all_eq_true.mpr ha)]
theorem numV_not {s : Str} {c : Nat} (h : c ∈ s.cps.toList) (hc : dig c = false) : numV s = -1 := by
  unfold numV
  split
  · rfl
  split
  · rfl
  split
  · rename_i z
    rw [List.all_eq_true.mp z c h] at hc
    cases hc
  · rfl
end Sz
/-! x in a list whose items have own ==: every turn may make objects -/
namespace PySem.SeqAt
open PySem PySem.Spec PySem.Calls PyProof.Rows
open MeetsSeq MeetsSeq2 MeetsSeq3 SeqRoads2
theorem contains_loopG {prog : Program} {w : World} {E : Value → Shared → Prop} {A : Around} {R : Result → Shared → Prop} {l : Addr} {N : Nat} {x : Value} (e : Nat → Bool) (J : Shared → Prop)
    (hJ : ∀ s, J s → ∃ (items : Array Value) (n : Nat) (dd : Option Addr) (sl : Array (Option Value)), s.heap.get? l = some { cls := .type "list", dict := dd, data := .seq items n, slots := sl } ∧ items.size = N ∧
      ∀ i y, items[i]? = some y → wpAny (model prog w) A.in1 (eqBool y x) (fun b s' => b = e i ∧ J s') E s) (hE : ∀ er s, E er s → R (.error er) s) (k : Nat) :
    ∀ (i : Nat) (s : Shared), N - i = k → J s → (∀ s, J s → R (.ok (.ret (.bool ((List.range' i k).any e)))) s) →
      wpAny (model prog w) A.in1 (Builtin.«list.__contains__.loop» ⟨[.ref l, x, rawInt i], []⟩) (fun fin s' => match fin with | .done f => R (.ok f) s' | .again c' => c'.quiet = true ∧ codeAny (model prog w) A c' R s') (fun e s' => R (.error e) s') s := by
  induction k with
  | zero =>
    intro i s hk j h
    obtain ⟨items, n, dd, sl, hl, hN, _⟩ := hJ s j
    have h := h s j
    obtain ⟨hp, g, d, tk, os⟩ := s
    wp_walk using PySem.AutoSeq1.wpAny_loadPart' hl
    have hi : items[((i : Nat) : Int).toNat]? = none := by simp; omega
    rw [hi]
    wp_walk
    exact h
  | succ k ih =>
    intro i s hk j h
    obtain ⟨items, n, dd, sl, hl, hN, turn⟩ := hJ s j
    have hlt : i < items.size := by omega
    have t := turn i items[i] (by simp [hlt])
    obtain ⟨hp, g, d, tk, os⟩ := s
    wp_walk using PySem.AutoSeq1.wpAny_loadPart' hl
    have hi : items[((i : Nat) : Int).toNat]? = some items[i] := by simp [hlt]
    rw [List.range'_succ, List.any_cons] at h
    rw [hi]
    refine wpAny_bind (wpAny_mono t (fun b s' hb => ?_) hE)
    obtain ⟨rfl, j'⟩ := hb
    cases hb : e i with
    | true =>
      rw [hb] at h
      have h := h s' j'
      obtain ⟨hp, g, d, tk, os⟩ := s'
      wp_walk
      exact h
    | false =>
      rw [hb] at h
      have hc : ((i : Int) + 1) = ((i + 1 : Nat) : Int) := by push_cast; rfl
      have h2 := ih (i + 1) s' (by omega) j' (fun s js => by simpa using h s js)
      obtain ⟨hp, g, d, tk, os⟩ := s'
      wp_walk
      rw [hc]
      exact ⟨plainId_quiet plain_contains_loop _, codeAny_builtin entry_contains_loop (by
        rw [Around.under_plainId plain_contains_loop _]
        exact h2)⟩
theorem in_listG {prog : Program} {w : World} {E : Value → Shared → Prop} {A : Around} {s : Shared} {l : Addr} {N : Nat} {x : Value} {Q : Value → Shared → Prop} (e : Nat → Bool) (J : Shared → Prop)
    (hJ : ∀ s, J s → ∃ (items : Array Value) (n : Nat) (dd : Option Addr) (sl : Array (Option Value)), s.heap.get? l = some { cls := .type "list", dict := dd, data := .seq items n, slots := sl } ∧ items.size = N ∧
      ∀ i y, items[i]? = some y → wpAny (model prog w) A.in1 (eqBool y x) (fun b s' => b = e i ∧ J s') E s)
    (j : J s) (h : ∀ s, J s → Q (.bool ((List.range' 0 N).any e)) s) : wpAny (model prog w) A (compareOp .In x (.ref l)) Q E s := by
  show wpAny _ A (do return .bool (← contains (.ref l) x)) Q E s
  have hT : s.TypeIs (.ref l) "list" := by
    obtain ⟨items, n, dd, sl, hl, _⟩ := hJ s j
    exact ⟨_, hl, rfl⟩
  refine wpAny_bind (PySem.wpAny_contains_slot hT F.slot_list_contains (wpAny_mono (call_meetsIn (S := fun A' R s' => A' = A ∧ R = wants (fun v s' => ∃ b, v = .bool b ∧ Q (.bool b) s') E ∧ J s') F.slot_list_contains hT F.entry_list_contains (F.args_list_contains_2 _ _) ?_ ⟨rfl, rfl, j⟩) (fun v s' hv => ?_) fun _ _ e => e))
  · rintro A' R s' ⟨rfl, rfl, j'⟩
    obtain ⟨items, n, dd, sl, hl, hN, _⟩ := hJ s' j'
    have go := contains_loopG (R := wants (fun v s' => ∃ b, v = .bool b ∧ Q (.bool b) s') E) e J hJ (fun _ _ h => h) N 0 s' (by simp) j' (fun s js => ⟨_, rfl, h s js⟩)
    obtain ⟨hp, g, d, tk, os⟩ := s'
    wp_walk using PySem.AutoSeq1.wpAny_loadPart' hl
    exact ⟨plainId_quiet plain_contains_loop _, codeAny_builtin entry_contains_loop (by
      rw [Around.under_plainId plain_contains_loop _]
      exact go)⟩
  · obtain ⟨b, rfl, hq⟩ := hv
    exact wpAny_truthy_bool (wpAny_pure hq)
end PySem.SeqAt
namespace Sz
open PySem PySem.Spec PySem.Calls PyProof.Rows L2
theorem notFirst_none {K : PySem.W.Frag} {C : Addr} : PySem.W.notFirst K C (.type "NoneType") = true := by
  have h : PySem.W.subIn K (.type "NoneType") (.ref C) = some false := by
    unfold PySem.W.subIn
    rfl
  unfold PySem.W.notFirst
  rw [h]
  rfl
/-- an own == says no of None -/
def spEqN (N : Addr → Hp → Prop) : Sp := fun vs H Q _ => ∃ a, vs = [.ref a, .non] ∧ N a H ∧ ∀ H', Ext H H' → Q (.bl false) H'
section
variable {X : Cx} {n : Nat}
theorem eqN_run {CX : CXT} {C f : Addr} {fd : FuncData} {ps : List Str} {N : Addr → Hp → Prop} {E : XK} (F : FnOk X.prog X.w X.K X.mg X.base CX n f fd ps (spEqN N))
    (hs : PySem.W.findIn X.K (.ref C) "__eq__" = some (some (.ref f))) (hf : PySem.W.isFn X.K (.ref f) = true) (hb : Binds X.K fd ps []) (hx : Passes CX X E)
    {A : Around} {pins : List (Addr × Obj)} {s : Shared} {σ : L2.St} {H : Hp} {a dx : Addr} {fs : List (Str × V)} (sb : Sub X n A) (I : Inv X pins σ H s) (ha : H a = some (.ins C dx fs)) (hr : N a H) :
    wpAny (model X.prog X.w) A (eqBool (.ref a) .none) (fun r s' => r = false ∧ ∃ H', Inv X pins σ H' s' ∧ Ext H H') X.xe s := by
  obtain ⟨mA, J, _⟩ := ins_get I.hok ha
  obtain ⟨od, J, _⟩ := J.look
  obtain ⟨m, hF⟩ := I.fr
  unfold eqBool
  refine wpAny_holding ?_
  refine wpAny_ite_split (fun hab => by cases eq_of_beq hab) (fun _ => ?_)
  refine wpAny_bind ?_
  refine PySem.W.cmp_K (op := .Eq) (tb := .type "NoneType") sb.room.units0 hF I.ok.mod.kin J (PySem.W.Looks.of_pure rfl) notFirst_none hs hf ?_
  have hsp : spEqN N [.ref a, .non] H (fun v H' => v = .bl false ∧ Ext H H') E := ⟨a, rfl, hr, fun H' e => ⟨rfl, e⟩⟩
  have e0 : Env0 X.prog X.w X.K X.mg X.base A X.stack s H := by
    have e := I.env0
    exact ⟨by rw [sb.fr]; exact e.frames, e.mod, e.bs, e.bsz, e.funs, e.frf, e.hok, e.bare⟩
  have hl := F.len _ _ _ _ hsp
  have r2 : Vals [V.ref a, V.non] [Value.ref a, Value.none] := .cons rfl (.cons rfl .nil)
  refine wpAny_call (codeAny_mono (F.run A X.stack s H ⟨[.ref a, .none], []⟩ [.ref a, .none] [.ref a, .non] _ E sb.room e0 (by
    have := hb s [.ref a, .none] I.kIn (by simpa using hl)
    simpa using this) r2 hsp) fun r s' hq => ?_)
  cases r with
  | error e => exact hx pins σ H s e s' I hq
  | ok fl =>
    cases fl with
    | ret w =>
      obtain ⟨z, H', I', rz, ez, ex⟩ := I.after hq
      subst ez
      cases rz
      exact wpAny_truthy_bool ⟨rfl, H', I', ex⟩
    | next => exact False.elim hq
    | brk => exact False.elim hq
    | cont => exact False.elim hq
end
end Sz
namespace Sz
open PySem PySem.Spec PySem.Calls PyProof.Rows L2
def isNon : V → Bool
  | .non => true
  | _ => false
/-- None in a list of things of one class and None -/
def rInN (K : PySem.W.Frag) (C : Addr) (N : Addr → Hp → Prop) : R2 := fun x y H Q => ∃ p ys, x = .non ∧ y = .ref p ∧ SqL K H p ys ∧ (∀ z ∈ ys, z = .non ∨ ∃ a dx fs, z = .ref a ∧ H a = some (.ins C dx fs) ∧ N a H) ∧ ∀ H', Ext H H' → Q (.bl (ys.any isNon)) H'
theorem any_range {ys : List V} : ∀ {zs ds : List V}, ys = ds ++ zs → (List.range' ds.length zs.length).any (fun i => (ys[i]?.map isNon).getD false) = zs.any isNon
  | [], _, _ => rfl
  | z :: zs, ds, e => by
    have ih := any_range (ys := ys) (zs := zs) (ds := ds ++ [z]) (by rw [e]; simp)
    rw [List.length_append] at ih
    rw [List.length_cons, List.range'_succ, List.any_cons, List.any_cons, ← ih]
    have e2 : ys[ds.length]? = some z := by rw [e]; simp
    rw [e2]
    rfl
section
variable {X : Cx} {CX : CXT} {k : Nat} {C : Str} {ps : List Str} {N : Addr → Hp → Prop} {E : XK}
theorem op_inN (G : PromM X.prog X.w X.K X.mg X.base CX k C "__eq__" ps (spEqN N)) (hm : ∀ a H H', Ext H H' → N a H → N a H') (hr : Room (k + 1) X.A) (hx : Passes CX X E) : OpR X (compareOp .In) (rInN X.K (He.ga X.K C) N) := by
  intro pins s σ H x y v u Q I rx ry h
  obtain ⟨p, ys, rfl, rfl, hq, hy, q⟩ := h
  cases rx
  cases ry
  obtain ⟨fd, F, b⟩ := G.ex
  refine SeqAt.in_listG (N := ys.length) (fun i => (ys[i]?.map isNon).getD false) (fun s' => ∃ H', Inv X pins σ H' s' ∧ Ext H H') ?_ ⟨H, I, Ext.rfl'⟩ ?_
  · rintro s' ⟨H', I', e'⟩
    obtain ⟨its, r, ⟨o, n, ho, hc, hd, hdat⟩, hz⟩ := I'.list (Same.seq e' hq)
    refine ⟨its.toArray, n, o.dict, o.slots, ?_, ?_, ?_⟩
    · rw [ho]
      cases o
      cases hc
      cases hdat
      rfl
    · simpa using r.length.symm
    · intro i y hi
      have hi : its[i]? = some y := by simpa using hi
      obtain ⟨z, hz, rz⟩ : ∃ z, ys[i]? = some z ∧ RelV z y := by
        have hlt : i < its.length := by
          rcases List.getElem?_eq_some_iff.mp hi with ⟨h, _⟩
          exact h
        have hy2 : i < ys.length := by
          have := r.length
          omega
        obtain ⟨u, hu, ru⟩ := r.get (List.getElem?_eq_getElem hy2)
        rw [hi] at hu
        cases hu
        exact ⟨_, List.getElem?_eq_getElem hy2, ru⟩
      rcases hy z (List.mem_of_getElem? hz) with rfl | ⟨a, dx, fs, rfl, ha, hN⟩
      · cases rz
        rw [hz]
        exact SeqAt.EqAt.same (A := X.A.in1) (s := s') .none X.prog X.w X.xe _ ⟨rfl, H', I', e'⟩
      · cases rz
        rw [hz]
        refine wpAny_mono (eqN_run F G.me.at_ G.me.fn b hx ⟨hr.in1, rfl⟩ I' (e' _ _ ha) (hm _ _ _ e' hN)) (fun r s2 z => ?_) fun _ _ x => x
        obtain ⟨hr, H2, I2, e2⟩ := z
        exact ⟨hr, H2, I2, e'.trans e2⟩
  · rintro s' ⟨H', I', e'⟩
    have ea := any_range (ys := ys) (zs := ys) (ds := []) rfl
    rw [show (List.range' 0 ys.length).any _ = ys.any isNon from ea]
    exact ⟨.bl _, H', I', rfl, q _ e'⟩
end
end Sz
set_option maxHeartbeats 400000
set_option pp.maxSteps 900
namespace Sz
open PySem PySem.Spec PyProof.Rows L2
def top (i : Nat) : Stmt := PySem.Challenge.pw_sizestacks_k56_whole_payloads_and_missed.main.body.getD i (.Pass ⟨0, 0, 0, 0⟩)
abbrev s__wall : Stmt := top 0
theorem sc__wall : FnScope ["k"] ["k"] (defScope s__wall) := ⟨rfl, rfl, rfl, by decide +kernel, rfl, by decide +kernel, by decide +kernel⟩
abbrev s_is_integer : Stmt := top 22
theorem sc_is_integer : FnScope ["value"] ["value"] (defScope s_is_integer) := ⟨rfl, rfl, rfl, by decide +kernel, rfl, by decide +kernel, by decide +kernel⟩
abbrev s_is_between : Stmt := top 23
theorem sc_is_between : FnScope ["value", "least", "most"] ["value", "least", "most"] (defScope s_is_between) := ⟨rfl, rfl, rfl, by decide +kernel, rfl, by decide +kernel, by decide +kernel⟩
abbrev s_check_length : Stmt := top 24
theorem sc_check_length : FnScope ["value"] ["value"] (defScope s_check_length) := ⟨rfl, rfl, rfl, by decide +kernel, rfl, by decide +kernel, by decide +kernel⟩
abbrev s_check_base : Stmt := top 25
theorem sc_check_base : FnScope ["value"] ["value"] (defScope s_check_base) := ⟨rfl, rfl, rfl, by decide +kernel, rfl, by decide +kernel, by decide +kernel⟩
abbrev s_figures_of : Stmt := top 26
theorem sc_figures_of : FnScope ["length", "base", "count", "power", "eight", "turn"] ["length", "base"] (defScope s_figures_of) := ⟨rfl, rfl, rfl, by decide +kernel, rfl, by decide +kernel, by decide +kernel⟩
abbrev s_amount_of : Stmt := top 27
theorem sc_amount_of : FnScope ["word", "amount", "sign"] ["word"] (defScope s_amount_of) := ⟨rfl, rfl, rfl, by decide +kernel, rfl, by decide +kernel, by decide +kernel⟩
abbrev s_fault_in : Stmt := top 32
theorem sc_fault_in : FnScope ["kind", "numbers", "index", "least", "most"] ["kind", "numbers"] (defScope s_fault_in) := ⟨rfl, rfl, rfl, by decide +kernel, rfl, by decide +kernel, by decide +kernel⟩
abbrev s_begun : Stmt := top 33
theorem sc_begun : FnScope ["length", "whole"] ["length", "whole"] (defScope s_begun) := ⟨rfl, rfl, rfl, by decide +kernel, rfl, by decide +kernel, by decide +kernel⟩
abbrev s_total_of : Stmt := top 34
theorem sc_total_of : FnScope ["length", "base", "figures"] ["length", "base"] (defScope s_total_of) := ⟨rfl, rfl, rfl, by decide +kernel, rfl, by decide +kernel, by decide +kernel⟩
abbrev s_Wrap___init__ : Stmt := inClass (top 35) 0
theorem sc_Wrap___init__ : FnScope ["self", "kind", "numbers", "fault", "number"] ["self", "kind", "numbers"] (defScope s_Wrap___init__) := ⟨rfl, rfl, rfl, by decide +kernel, rfl, by decide +kernel, by decide +kernel⟩
abbrev s_Wrap_grown : Stmt := inClass (top 35) 2
theorem sc_Wrap_grown : FnScope ["self", "length", "base", "first", "last"] ["self", "length", "base"] (defScope s_Wrap_grown) := ⟨rfl, rfl, rfl, by decide +kernel, rfl, by decide +kernel, by decide +kernel⟩
abbrev s_Wrap___eq__ : Stmt := inClass (top 35) 4
theorem sc_Wrap___eq__ : FnScope ["self", "other"] ["self", "other"] (defScope s_Wrap___eq__) := ⟨rfl, rfl, rfl, by decide +kernel, rfl, by decide +kernel, by decide +kernel⟩
abbrev s_in_pieces : Stmt := top 36
theorem sc_in_pieces : FnScope ["length", "most", "constant", "base", "size", "rest"] ["length", "most", "constant", "base"] (defScope s_in_pieces) := ⟨rfl, rfl, rfl, by decide +kernel, rfl, by decide +kernel, by decide +kernel⟩
abbrev s_wrap_in : Stmt := top 37
theorem sc_wrap_in : FnScope ["text", "words", "kind", "numbers", "word"] ["text"] (defScope s_wrap_in) := ⟨rfl, rfl, rfl, by decide +kernel, rfl, by decide +kernel, by decide +kernel⟩
abbrev s_check_wrap : Stmt := top 38
theorem sc_check_wrap : FnScope ["value"] ["value"] (defScope s_check_wrap) := ⟨rfl, rfl, rfl, by decide +kernel, rfl, by decide +kernel, by decide +kernel⟩
abbrev s_fineness_of : Stmt := top 40
theorem sc_fineness_of : FnScope ["wraps", "product", "wrap"] ["wraps"] (defScope s_fineness_of) := ⟨rfl, rfl, rfl, by decide +kernel, rfl, by decide +kernel, by decide +kernel⟩
abbrev s_check_wraps : Stmt := top 41
theorem sc_check_wraps : FnScope ["values", "most", "index", "value"] ["values", "most"] (defScope s_check_wraps) := ⟨rfl, rfl, rfl, by decide +kernel, rfl, by decide +kernel, by decide +kernel⟩
abbrev s_Stack___init__ : Stmt := inClass (top 42) 0
theorem sc_Stack___init__ : FnScope ["self", "base", "wraps", "fineness"] ["self", "base", "wraps"] (defScope s_Stack___init__) := ⟨rfl, rfl, rfl, by decide +kernel, rfl, by decide +kernel, by decide +kernel⟩
abbrev s_Stack_grown : Stmt := inClass (top 42) 2
theorem sc_Stack_grown : FnScope ["self", "length", "wrap"] ["self", "length"] (defScope s_Stack_grown) := ⟨rfl, rfl, rfl, by decide +kernel, rfl, by decide +kernel, by decide +kernel⟩
abbrev s_stack_in : Stmt := top 43
theorem sc_stack_in : FnScope ["text", "rows", "word", "gap", "rest", "base", "wraps", "row"] ["text"] (defScope s_stack_in) := ⟨rfl, rfl, rfl, by decide +kernel, rfl, by decide +kernel, by decide +kernel⟩
abbrev s_is_length : Stmt := top 46
theorem sc_is_length : FnScope ["value"] ["value"] (defScope s_is_length) := ⟨rfl, rfl, rfl, by decide +kernel, rfl, by decide +kernel, by decide +kernel⟩
abbrev s_stack_told : Stmt := top 47
theorem sc_stack_told : FnScope ["value"] ["value"] (defScope s_stack_told) := ⟨rfl, rfl, rfl, by decide +kernel, rfl, by decide +kernel, by decide +kernel⟩
abbrev s_are_integers : Stmt := top 48
theorem sc_are_integers : FnScope ["value", "count", "part"] ["value", "count"] (defScope s_are_integers) := ⟨rfl, rfl, rfl, by decide +kernel, rfl, by decide +kernel, by decide +kernel⟩
abbrev s_unlike_sizes : Stmt := top 49
theorem sc_unlike_sizes : FnScope ["rest", "longer", "one", "other", "length"] ["rest", "longer"] (defScope s_unlike_sizes) := ⟨rfl, rfl, rfl, by decide +kernel, rfl, by decide +kernel, by decide +kernel⟩
abbrev s_has_size : Stmt := top 50
theorem sc_has_size : FnScope ["rest", "stack"] ["rest"] (defScope s_has_size) := ⟨rfl, rfl, rfl, by decide +kernel, rfl, by decide +kernel, by decide +kernel⟩
abbrev s_shows_payload : Stmt := top 51
theorem sc_shows_payload : FnScope ["rest", "paper", "stack", "bound", "length"] ["rest", "paper"] (defScope s_shows_payload) := ⟨rfl, rfl, rfl, by decide +kernel, rfl, by decide +kernel, by decide +kernel⟩
abbrev s_shows_missed : Stmt := top 52
theorem sc_shows_missed : FnScope ["rest", "paper", "stack", "size"] ["rest", "paper"] (defScope s_shows_missed) := ⟨rfl, rfl, rfl, by decide +kernel, rfl, by decide +kernel, by decide +kernel⟩
abbrev s_shows_doubled : Stmt := top 53
theorem sc_shows_doubled : FnScope ["rest", "paper", "total"] ["rest", "paper"] (defScope s_shows_doubled) := ⟨rfl, rfl, rfl, by decide +kernel, rfl, by decide +kernel, by decide +kernel⟩
abbrev s_steps_told : Stmt := top 54
theorem sc_steps_told : FnScope ["steps", "found", "wraps", "step"] ["steps"] (defScope s_steps_told) := ⟨rfl, rfl, rfl, by decide +kernel, rfl, by decide +kernel, by decide +kernel⟩
abbrev s_first_stop : Stmt := top 55
theorem sc_first_stop : FnScope ["base", "steps", "length", "inner", "place", "step"] ["base", "steps", "length"] (defScope s_first_stop) := ⟨rfl, rfl, rfl, by decide +kernel, rfl, by decide +kernel, by decide +kernel⟩
abbrev s_shows_stopped : Stmt := top 56
theorem sc_shows_stopped : FnScope ["rest", "paper", "steps", "most", "next_one", "place"] ["rest", "paper"] (defScope s_shows_stopped) := ⟨rfl, rfl, rfl, by decide +kernel, rfl, by decide +kernel, by decide +kernel⟩
abbrev s_holds : Stmt := top 57
theorem sc_holds : FnScope ["claim", "paper", "word", "rest"] ["claim", "paper"] (defScope s_holds) := ⟨rfl, rfl, rfl, by decide +kernel, rfl, by decide +kernel, by decide +kernel⟩
abbrev s_L_cell : Stmt := top 59
theorem sc_L_cell : FnScope ["_law_cells", "_law_k", "_law_found", "_law_cell_here"] ["_law_cells", "_law_k"] (defScope s_L_cell) := ⟨rfl, rfl, rfl, by decide +kernel, rfl, by decide +kernel, by decide +kernel⟩
abbrev s_L_pool : Stmt := top 60
theorem sc_L_pool : FnScope ["_law_cell_here", "_law_digits"] ["_law_cell_here"] (defScope s_L_pool) := ⟨rfl, rfl, rfl, by decide +kernel, rfl, by decide +kernel, by decide +kernel⟩
abbrev s_L_draw : Stmt := top 61
theorem sc_L_draw : FnScope ["_law_pool_here", "_law_many", "_law_digit"] ["_law_pool_here", "_law_many"] (defScope s_L_draw) := ⟨rfl, rfl, rfl, by decide +kernel, rfl, by decide +kernel, by decide +kernel⟩
abbrev s_L_far : Stmt := top 62
theorem sc_L_far : FnScope ["_law_pool_here", "_law_cut", "_law_found", "_law_k"] ["_law_pool_here"] (defScope s_L_far) := ⟨rfl, rfl, rfl, by decide +kernel, rfl, by decide +kernel, by decide +kernel⟩
abbrev s_L_radix : Stmt := top 63
theorem sc_L_radix : FnScope ["_law_pool_here", "_law_way"] ["_law_pool_here"] (defScope s_L_radix) := ⟨rfl, rfl, rfl, by decide +kernel, rfl, by decide +kernel, by decide +kernel⟩
abbrev s_L_length : Stmt := top 64
theorem sc_L_length : FnScope ["_law_pool_here", "_law_b", "_law_way", "_law_power", "_law_k"] ["_law_pool_here", "_law_b"] (defScope s_L_length) := ⟨rfl, rfl, rfl, by decide +kernel, rfl, by decide +kernel, by decide +kernel⟩
abbrev s_L_constant : Stmt := top 65
theorem sc_L_constant : FnScope ["_law_pool_here", "_law_most", "_law_way"] ["_law_pool_here", "_law_most"] (defScope s_L_constant) := ⟨rfl, rfl, rfl, by decide +kernel, rfl, by decide +kernel, by decide +kernel⟩
abbrev s_L_fine : Stmt := top 66
theorem sc_L_fine : FnScope ["_law_tags_here", "_law_found", "_law_tag"] ["_law_tags_here"] (defScope s_L_fine) := ⟨rfl, rfl, rfl, by decide +kernel, rfl, by decide +kernel, by decide +kernel⟩
abbrev s_L_wrap : Stmt := top 67
theorem sc_L_wrap : FnScope ["_law_pool_here", "_law_room", "_law_way", "_law_most", "_law_many", "_law_k"] ["_law_pool_here", "_law_room"] (defScope s_L_wrap) := ⟨rfl, rfl, rfl, by decide +kernel, rfl, by decide +kernel, by decide +kernel⟩
abbrev s_L_tags : Stmt := top 68
theorem sc_L_tags : FnScope ["_law_pool_here", "_law_many", "_law_tags_here", "_law_k"] ["_law_pool_here", "_law_many"] (defScope s_L_tags) := ⟨rfl, rfl, rfl, by decide +kernel, rfl, by decide +kernel, by decide +kernel⟩
abbrev s_L_figures : Stmt := top 69
theorem sc_L_figures : FnScope ["_law_n", "_law_b", "_law_far_here", "_law_count"] ["_law_n", "_law_b"] (defScope s_L_figures) := ⟨rfl, rfl, rfl, by decide +kernel, rfl, by decide +kernel, by decide +kernel⟩
abbrev s_L_over : Stmt := top 70
theorem sc_L_over : FnScope ["_law_tag", "_law_n", "_law_b", "_law_many", "_law_full", "_law_rest", "_law_last", "_law_parts_here"] ["_law_tag", "_law_n", "_law_b"] (defScope s_L_over) := ⟨rfl, rfl, rfl, by decide +kernel, rfl, by decide +kernel, by decide +kernel⟩
abbrev s_L_long : Stmt := top 71
theorem sc_L_long : FnScope ["_law_tags_here", "_law_n", "_law_b", "_law_tag"] ["_law_tags_here", "_law_n", "_law_b"] (defScope s_L_long) := ⟨rfl, rfl, rfl, by decide +kernel, rfl, by decide +kernel, by decide +kernel⟩
abbrev s_L_words : Stmt := top 72
theorem sc_L_words : FnScope ["_law_tag", "_law_part_here"] ["_law_tag"] (defScope s_L_words) := ⟨rfl, rfl, rfl, by decide +kernel, rfl, by decide +kernel, by decide +kernel⟩
abbrev s_L_lines : Stmt := top 73
theorem sc_L_lines : FnScope ["_law_tags_here", "_law_b", "_law_tag"] ["_law_tags_here", "_law_b"] (defScope s_L_lines) := ⟨rfl, rfl, rfl, by decide +kernel, rfl, by decide +kernel, by decide +kernel⟩
abbrev s_L_number_in : Stmt := top 74
theorem sc_L_number_in : FnScope ["_law_word", "_law_sign"] ["_law_word"] (defScope s_L_number_in) := ⟨rfl, rfl, rfl, by decide +kernel, rfl, by decide +kernel, by decide +kernel⟩
abbrev s_L_tag_in : Stmt := top 75
theorem sc_L_tag_in : FnScope ["_law_line", "_law_words_here", "_law_some", "_law_good", "_law_word"] ["_law_line"] (defScope s_L_tag_in) := ⟨rfl, rfl, rfl, by decide +kernel, rfl, by decide +kernel, by decide +kernel⟩
abbrev s_L_pile_in : Stmt := top 76
theorem sc_L_pile_in : FnScope ["_law_lines_here_here", "_law_lines_here", "_law_words_here", "_law_tags_here", "_law_line"] ["_law_lines_here_here"] (defScope s_L_pile_in) := ⟨rfl, rfl, rfl, by decide +kernel, rfl, by decide +kernel, by decide +kernel⟩
abbrev s_L_is : Stmt := top 77
theorem sc_L_is : FnScope ["_law_thing", "_law_most"] ["_law_thing", "_law_most"] (defScope s_L_is) := ⟨rfl, rfl, rfl, by decide +kernel, rfl, by decide +kernel, by decide +kernel⟩
abbrev s_L_bent : Stmt := top 78
theorem sc_L_bent : FnScope ["_law_pool_here", "_law_thing", "_law_way", "_law_at", "_law_sign"] ["_law_pool_here", "_law_thing"] (defScope s_L_bent) := ⟨rfl, rfl, rfl, by decide +kernel, rfl, by decide +kernel, by decide +kernel⟩
abbrev s_L_truth : Stmt := top 79
theorem sc_L_truth : FnScope ["_law_claim_here", "_law_page_here", "_law_last", "_law_pile", "_law_some", "_law_b", "_law_tags_here", "_law_n", "_law_longs"] ["_law_claim_here", "_law_page_here"] (defScope s_L_truth) := ⟨rfl, rfl, rfl, by decide +kernel, rfl, by decide +kernel, by decide +kernel⟩
abbrev s_L_judged_right : Stmt := top 80
theorem sc_L_judged_right : FnScope ["_law_pool_here", "_law_claim_here", "_law_page_here", "_law_told", "_law_turn", "_law_some", "_law_other"] ["_law_pool_here", "_law_claim_here", "_law_page_here"] (defScope s_L_judged_right) := ⟨rfl, rfl, rfl, by decide +kernel, rfl, by decide +kernel, by decide +kernel⟩
abbrev s_L_right : Stmt := top 81
theorem sc_L_right : FnScope ["_law_cell_here", "_law_pool_here", "_law_b", "_law_tags_here", "_law_n", "_law_lines_here", "_law_low", "_law_high", "_law_sure", "_law_rest", "_law_edge"] ["_law_cell_here"] (defScope s_L_right) := ⟨rfl, rfl, rfl, by decide +kernel, rfl, by decide +kernel, by decide +kernel⟩
abbrev s_L_plain_right : Stmt := top 82
theorem sc_L_plain_right : FnScope ["_law_pool_here", "_law_b", "_law_last", "_law_tags_here", "_law_lines_here", "_law_claim_here", "_law_page_here"] ["_law_pool_here", "_law_b"] (defScope s_L_plain_right) := ⟨rfl, rfl, rfl, by decide +kernel, rfl, by decide +kernel, by decide +kernel⟩
abbrev s_law : Stmt := top 83
theorem sc_law : FnScope ["_law_cells", "_law_k", "_law_pool_here", "_law_turn"] ["_law_cells"] (defScope s_law) := ⟨rfl, rfl, rfl, by decide +kernel, rfl, by decide +kernel, by decide +kernel⟩
structure Tx (w : World) (K : PySem.W.Frag) (mg : Str → Option Value) : Prop where
  d__wall : DefAt K mg "_wall" s__wall
  d_is_integer : DefAt K mg "is_integer" s_is_integer
  d_is_between : DefAt K mg "is_between" s_is_between
  d_check_length : DefAt K mg "check_length" s_check_length
  d_check_base : DefAt K mg "check_base" s_check_base
  d_figures_of : DefAt K mg "figures_of" s_figures_of
  d_amount_of : DefAt K mg "amount_of" s_amount_of
  d_fault_in : DefAt K mg "fault_in" s_fault_in
  d_begun : DefAt K mg "begun" s_begun
  d_total_of : DefAt K mg "total_of" s_total_of
  d_in_pieces : DefAt K mg "in_pieces" s_in_pieces
  d_wrap_in : DefAt K mg "wrap_in" s_wrap_in
  d_check_wrap : DefAt K mg "check_wrap" s_check_wrap
  d_fineness_of : DefAt K mg "fineness_of" s_fineness_of
  d_check_wraps : DefAt K mg "check_wraps" s_check_wraps
  d_stack_in : DefAt K mg "stack_in" s_stack_in
  d_is_length : DefAt K mg "is_length" s_is_length
  d_stack_told : DefAt K mg "stack_told" s_stack_told
  d_are_integers : DefAt K mg "are_integers" s_are_integers
  d_unlike_sizes : DefAt K mg "unlike_sizes" s_unlike_sizes
  d_has_size : DefAt K mg "has_size" s_has_size
  d_shows_payload : DefAt K mg "shows_payload" s_shows_payload
  d_shows_missed : DefAt K mg "shows_missed" s_shows_missed
  d_shows_doubled : DefAt K mg "shows_doubled" s_shows_doubled
  d_steps_told : DefAt K mg "steps_told" s_steps_told
  d_first_stop : DefAt K mg "first_stop" s_first_stop
  d_shows_stopped : DefAt K mg "shows_stopped" s_shows_stopped
  d_holds : DefAt K mg "holds" s_holds
  d_L_cell : DefAt K mg "_law_cell" s_L_cell
  d_L_pool : DefAt K mg "_law_pool" s_L_pool
  d_L_draw : DefAt K mg "_law_draw" s_L_draw
  d_L_far : DefAt K mg "_law_far" s_L_far
  d_L_radix : DefAt K mg "_law_radix" s_L_radix
  d_L_length : DefAt K mg "_law_length" s_L_length
  d_L_constant : DefAt K mg "_law_constant" s_L_constant
  d_L_fine : DefAt K mg "_law_fine" s_L_fine
  d_L_wrap : DefAt K mg "_law_wrap" s_L_wrap
  d_L_tags : DefAt K mg "_law_tags" s_L_tags
  d_L_figures : DefAt K mg "_law_figures" s_L_figures
  d_L_over : DefAt K mg "_law_over" s_L_over
  d_L_long : DefAt K mg "_law_long" s_L_long
  d_L_words : DefAt K mg "_law_words" s_L_words
  d_L_lines : DefAt K mg "_law_lines" s_L_lines
  d_L_number_in : DefAt K mg "_law_number_in" s_L_number_in
  d_L_tag_in : DefAt K mg "_law_tag_in" s_L_tag_in
  d_L_pile_in : DefAt K mg "_law_pile_in" s_L_pile_in
  d_L_is : DefAt K mg "_law_is" s_L_is
  d_L_bent : DefAt K mg "_law_bent" s_L_bent
  d_L_truth : DefAt K mg "_law_truth" s_L_truth
  d_L_judged_right : DefAt K mg "_law_judged_right" s_L_judged_right
  d_L_right : DefAt K mg "_law_right" s_L_right
  d_L_plain_right : DefAt K mg "_law_plain_right" s_L_plain_right
  d_law : DefAt K mg "law" s_law
  b_abs : mg "abs" = none
  b_all : mg "all" = none
  b_bool : mg "bool" = none
  b_divmod : mg "divmod" = none
  b_enumerate : mg "enumerate" = none
  b_int : mg "int" = none
  b_isinstance : mg "isinstance" = none
  b_len : mg "len" = none
  b_list : mg "list" = none
  b_max : mg "max" = none
  b_min : mg "min" = none
  b_range : mg "range" = none
  b_repr : mg "repr" = none
  b_str : mg "str" = none
  b_tuple : mg "tuple" = none
  c_MOST_LENGTH : ∃ u, mg "MOST_LENGTH" = some (.int 1000000000000000000000000000000000000000000000000000000000000 u)
  c_MOST_WRAPS : ∃ u, mg "MOST_WRAPS" = some (.int 6 u)
  c_MOST_FINENESS : ∃ u, mg "MOST_FINENESS" = some (.int 120 u)
  c_MOST_CONSTANT : ∃ u, mg "MOST_CONSTANT" = some (.int 1000 u)
  c_LEAST_BASE : ∃ u, mg "LEAST_BASE" = some (.int 2 u)
  c_MOST_BASE : ∃ u, mg "MOST_BASE" = some (.int 256 u)
  c_MOST_PIECE : ∃ u, mg "MOST_PIECE" = some (.int 60 u)
  c_MOST_CODE : ∃ u, mg "MOST_CODE" = some (.int 120 u)
  c_LAST_LENGTH : ∃ u, mg "LAST_LENGTH" = some (.int 999999999999999999999999999999999999999999999999999999999999 u)
  c_TENS : ∃ u, mg "TENS" = some (.str "0123456789" u)
  k_Wrap : mg "Wrap" = some (.ref (He.ga K "Wrap"))
  cl_Wrap : Cls K (He.ga K "Wrap")
  mk_Wrap : Mk K (He.ga K "Wrap") (He.ma K (He.ga K "Wrap") "__init__")
  is_Wrap : IsiK K (He.ga K "Wrap")
  na_Wrap_kind : NoAttr K (He.ga K "Wrap") "kind"
  na_Wrap_numbers : NoAttr K (He.ga K "Wrap") "numbers"
  na_Wrap_words : NoAttr K (He.ga K "Wrap") "words"
  me_Wrap___init__ : Meth K (He.ga K "Wrap") "__init__" (He.ma K (He.ga K "Wrap") "__init__")
  dm_Wrap___init__ : DefAtM K "Wrap" "__init__" "Wrap.__init__" s_Wrap___init__
  me_Wrap_grown : Meth K (He.ga K "Wrap") "grown" (He.ma K (He.ga K "Wrap") "grown")
  dm_Wrap_grown : DefAtM K "Wrap" "grown" "Wrap.grown" s_Wrap_grown
  me_Wrap___eq__ : Meth K (He.ga K "Wrap") "__eq__" (He.ma K (He.ga K "Wrap") "__eq__")
  dm_Wrap___eq__ : DefAtM K "Wrap" "__eq__" "Wrap.__eq__" s_Wrap___eq__
  k_Stack : mg "Stack" = some (.ref (He.ga K "Stack"))
  cl_Stack : Cls K (He.ga K "Stack")
  mk_Stack : Mk K (He.ga K "Stack") (He.ma K (He.ga K "Stack") "__init__")
  is_Stack : IsiK K (He.ga K "Stack")
  na_Stack_base : NoAttr K (He.ga K "Stack") "base"
  na_Stack_wraps : NoAttr K (He.ga K "Stack") "wraps"
  na_Stack_fineness : NoAttr K (He.ga K "Stack") "fineness"
  me_Stack___init__ : Meth K (He.ga K "Stack") "__init__" (He.ma K (He.ga K "Stack") "__init__")
  dm_Stack___init__ : DefAtM K "Stack" "__init__" "Stack.__init__" s_Stack___init__
  me_Stack_grown : Meth K (He.ga K "Stack") "grown" (He.ma K (He.ga K "Stack") "grown")
  dm_Stack_grown : DefAtM K "Stack" "grown" "Stack.grown" s_Stack_grown
  kt : KitTab K ["Wrap", "Stack"]
  k_RANGES : mg "RANGES" = some (.ref (He.ga K "RANGES"))
  kd : ∃ es n, KDict K w (He.ga K "RANGES") es n
  rg : ∀ a : Wr, Rng K (He.ga K "RANGES") a.kind a.rng
  rn : ∀ z : Str, z ∉ kinds7 → PySem.W.nsIn K (He.ga K "RANGES") z = some none
def dd__wall : He.DefD := ⟨("_wall", none), "_wall", "_wall", defArgs s__wall, defBody s__wall, defScope s__wall, [], []⟩
def dd_is_integer : He.DefD := ⟨("is_integer", none), "is_integer", "is_integer", defArgs s_is_integer, defBody s_is_integer, defScope s_is_integer, [], []⟩
def dd_is_between : He.DefD := ⟨("is_between", none), "is_between", "is_between", defArgs s_is_between, defBody s_is_between, defScope s_is_between, [], []⟩
def dd_check_length : He.DefD := ⟨("check_length", none), "check_length", "check_length", defArgs s_check_length, defBody s_check_length, defScope s_check_length, [], []⟩
def dd_check_base : He.DefD := ⟨("check_base", none), "check_base", "check_base", defArgs s_check_base, defBody s_check_base, defScope s_check_base, [], []⟩
def dd_figures_of : He.DefD := ⟨("figures_of", none), "figures_of", "figures_of", defArgs s_figures_of, defBody s_figures_of, defScope s_figures_of, [], []⟩
def dd_amount_of : He.DefD := ⟨("amount_of", none), "amount_of", "amount_of", defArgs s_amount_of, defBody s_amount_of, defScope s_amount_of, [], []⟩
def dd_fault_in : He.DefD := ⟨("fault_in", none), "fault_in", "fault_in", defArgs s_fault_in, defBody s_fault_in, defScope s_fault_in, [], []⟩
def dd_begun : He.DefD := ⟨("begun", none), "begun", "begun", defArgs s_begun, defBody s_begun, defScope s_begun, [], []⟩
def dd_total_of : He.DefD := ⟨("total_of", none), "total_of", "total_of", defArgs s_total_of, defBody s_total_of, defScope s_total_of, [], []⟩
def dd_in_pieces : He.DefD := ⟨("in_pieces", none), "in_pieces", "in_pieces", defArgs s_in_pieces, defBody s_in_pieces, defScope s_in_pieces, [], []⟩
def dd_wrap_in : He.DefD := ⟨("wrap_in", none), "wrap_in", "wrap_in", defArgs s_wrap_in, defBody s_wrap_in, defScope s_wrap_in, [], []⟩
def dd_check_wrap : He.DefD := ⟨("check_wrap", none), "check_wrap", "check_wrap", defArgs s_check_wrap, defBody s_check_wrap, defScope s_check_wrap, [], []⟩
def dd_fineness_of : He.DefD := ⟨("fineness_of", none), "fineness_of", "fineness_of", defArgs s_fineness_of, defBody s_fineness_of, defScope s_fineness_of, [], []⟩
def dd_check_wraps : He.DefD := ⟨("check_wraps", none), "check_wraps", "check_wraps", defArgs s_check_wraps, defBody s_check_wraps, defScope s_check_wraps, [], []⟩
def dd_stack_in : He.DefD := ⟨("stack_in", none), "stack_in", "stack_in", defArgs s_stack_in, defBody s_stack_in, defScope s_stack_in, [], []⟩
def dd_is_length : He.DefD := ⟨("is_length", none), "is_length", "is_length", defArgs s_is_length, defBody s_is_length, defScope s_is_length, [], []⟩
def dd_stack_told : He.DefD := ⟨("stack_told", none), "stack_told", "stack_told", defArgs s_stack_told, defBody s_stack_told, defScope s_stack_told, [], []⟩
def dd_are_integers : He.DefD := ⟨("are_integers", none), "are_integers", "are_integers", defArgs s_are_integers, defBody s_are_integers, defScope s_are_integers, [], []⟩
def dd_unlike_sizes : He.DefD := ⟨("unlike_sizes", none), "unlike_sizes", "unlike_sizes", defArgs s_unlike_sizes, defBody s_unlike_sizes, defScope s_unlike_sizes, [], []⟩
def dd_has_size : He.DefD := ⟨("has_size", none), "has_size", "has_size", defArgs s_has_size, defBody s_has_size, defScope s_has_size, [], []⟩
def dd_shows_payload : He.DefD := ⟨("shows_payload", none), "shows_payload", "shows_payload", defArgs s_shows_payload, defBody s_shows_payload, defScope s_shows_payload, [], []⟩
def dd_shows_missed : He.DefD := ⟨("shows_missed", none), "shows_missed", "shows_missed", defArgs s_shows_missed, defBody s_shows_missed, defScope s_shows_missed, [], []⟩
def dd_shows_doubled : He.DefD := ⟨("shows_doubled", none), "shows_doubled", "shows_doubled", defArgs s_shows_doubled, defBody s_shows_doubled, defScope s_shows_doubled, [], []⟩
def dd_steps_told : He.DefD := ⟨("steps_told", none), "steps_told", "steps_told", defArgs s_steps_told, defBody s_steps_told, defScope s_steps_told, [], []⟩
def dd_first_stop : He.DefD := ⟨("first_stop", none), "first_stop", "first_stop", defArgs s_first_stop, defBody s_first_stop, defScope s_first_stop, [], []⟩
def dd_shows_stopped : He.DefD := ⟨("shows_stopped", none), "shows_stopped", "shows_stopped", defArgs s_shows_stopped, defBody s_shows_stopped, defScope s_shows_stopped, [], []⟩
def dd_holds : He.DefD := ⟨("holds", none), "holds", "holds", defArgs s_holds, defBody s_holds, defScope s_holds, [], []⟩
def dd_L_cell : He.DefD := ⟨("_law_cell", none), "_law_cell", "_law_cell", defArgs s_L_cell, defBody s_L_cell, defScope s_L_cell, [], []⟩
def dd_L_pool : He.DefD := ⟨("_law_pool", none), "_law_pool", "_law_pool", defArgs s_L_pool, defBody s_L_pool, defScope s_L_pool, [], []⟩
def dd_L_draw : He.DefD := ⟨("_law_draw", none), "_law_draw", "_law_draw", defArgs s_L_draw, defBody s_L_draw, defScope s_L_draw, [], []⟩
def dd_L_far : He.DefD := ⟨("_law_far", none), "_law_far", "_law_far", defArgs s_L_far, defBody s_L_far, defScope s_L_far, [], []⟩
def dd_L_radix : He.DefD := ⟨("_law_radix", none), "_law_radix", "_law_radix", defArgs s_L_radix, defBody s_L_radix, defScope s_L_radix, [], []⟩
def dd_L_length : He.DefD := ⟨("_law_length", none), "_law_length", "_law_length", defArgs s_L_length, defBody s_L_length, defScope s_L_length, [], []⟩
def dd_L_constant : He.DefD := ⟨("_law_constant", none), "_law_constant", "_law_constant", defArgs s_L_constant, defBody s_L_constant, defScope s_L_constant, [], []⟩
def dd_L_fine : He.DefD := ⟨("_law_fine", none), "_law_fine", "_law_fine", defArgs s_L_fine, defBody s_L_fine, defScope s_L_fine, [], []⟩
def dd_L_wrap : He.DefD := ⟨("_law_wrap", none), "_law_wrap", "_law_wrap", defArgs s_L_wrap, defBody s_L_wrap, defScope s_L_wrap, [], []⟩
def dd_L_tags : He.DefD := ⟨("_law_tags", none), "_law_tags", "_law_tags", defArgs s_L_tags, defBody s_L_tags, defScope s_L_tags, [], []⟩
def dd_L_figures : He.DefD := ⟨("_law_figures", none), "_law_figures", "_law_figures", defArgs s_L_figures, defBody s_L_figures, defScope s_L_figures, [], []⟩
def dd_L_over : He.DefD := ⟨("_law_over", none), "_law_over", "_law_over", defArgs s_L_over, defBody s_L_over, defScope s_L_over, [], []⟩
def dd_L_long : He.DefD := ⟨("_law_long", none), "_law_long", "_law_long", defArgs s_L_long, defBody s_L_long, defScope s_L_long, [], []⟩
def dd_L_words : He.DefD := ⟨("_law_words", none), "_law_words", "_law_words", defArgs s_L_words, defBody s_L_words, defScope s_L_words, [], []⟩
def dd_L_lines : He.DefD := ⟨("_law_lines", none), "_law_lines", "_law_lines", defArgs s_L_lines, defBody s_L_lines, defScope s_L_lines, [], []⟩
def dd_L_number_in : He.DefD := ⟨("_law_number_in", none), "_law_number_in", "_law_number_in", defArgs s_L_number_in, defBody s_L_number_in, defScope s_L_number_in, [], []⟩
def dd_L_tag_in : He.DefD := ⟨("_law_tag_in", none), "_law_tag_in", "_law_tag_in", defArgs s_L_tag_in, defBody s_L_tag_in, defScope s_L_tag_in, [], []⟩
def dd_L_pile_in : He.DefD := ⟨("_law_pile_in", none), "_law_pile_in", "_law_pile_in", defArgs s_L_pile_in, defBody s_L_pile_in, defScope s_L_pile_in, [], []⟩
def dd_L_is : He.DefD := ⟨("_law_is", none), "_law_is", "_law_is", defArgs s_L_is, defBody s_L_is, defScope s_L_is, [], []⟩
def dd_L_bent : He.DefD := ⟨("_law_bent", none), "_law_bent", "_law_bent", defArgs s_L_bent, defBody s_L_bent, defScope s_L_bent, [], []⟩
def dd_L_truth : He.DefD := ⟨("_law_truth", none), "_law_truth", "_law_truth", defArgs s_L_truth, defBody s_L_truth, defScope s_L_truth, [], []⟩
def dd_L_judged_right : He.DefD := ⟨("_law_judged_right", none), "_law_judged_right", "_law_judged_right", defArgs s_L_judged_right, defBody s_L_judged_right, defScope s_L_judged_right, [], []⟩
def dd_L_right : He.DefD := ⟨("_law_right", none), "_law_right", "_law_right", defArgs s_L_right, defBody s_L_right, defScope s_L_right, [], []⟩
def dd_L_plain_right : He.DefD := ⟨("_law_plain_right", none), "_law_plain_right", "_law_plain_right", defArgs s_L_plain_right, defBody s_L_plain_right, defScope s_L_plain_right, [], []⟩
def dd_law : He.DefD := ⟨("law", none), "law", "law", defArgs s_law, defBody s_law, defScope s_law, [], []⟩
def dd_Wrap___init__ : He.DefD := ⟨("Wrap", some "__init__"), "__init__", "Wrap.__init__", defArgs s_Wrap___init__, defBody s_Wrap___init__, defScope s_Wrap___init__, [], []⟩
def dd_Wrap_grown : He.DefD := ⟨("Wrap", some "grown"), "grown", "Wrap.grown", defArgs s_Wrap_grown, defBody s_Wrap_grown, defScope s_Wrap_grown, [], []⟩
def dd_Wrap___eq__ : He.DefD := ⟨("Wrap", some "__eq__"), "__eq__", "Wrap.__eq__", defArgs s_Wrap___eq__, defBody s_Wrap___eq__, defScope s_Wrap___eq__, [], []⟩
def dd_Stack___init__ : He.DefD := ⟨("Stack", some "__init__"), "__init__", "Stack.__init__", defArgs s_Stack___init__, defBody s_Stack___init__, defScope s_Stack___init__, [], []⟩
def dd_Stack_grown : He.DefD := ⟨("Stack", some "grown"), "grown", "Stack.grown", defArgs s_Stack_grown, defBody s_Stack_grown, defScope s_Stack_grown, [], []⟩
def fnL : List He.DefD := [dd__wall, dd_is_integer, dd_is_between, dd_check_length, dd_check_base, dd_figures_of, dd_amount_of, dd_fault_in, dd_begun, dd_total_of, dd_in_pieces, dd_wrap_in, dd_check_wrap, dd_fineness_of, dd_check_wraps, dd_stack_in, dd_is_length, dd_stack_told, dd_are_integers, dd_unlike_sizes, dd_has_size, dd_shows_payload, dd_shows_missed, dd_shows_doubled, dd_steps_told, dd_first_stop, dd_shows_stopped, dd_holds, dd_L_cell, dd_L_pool, dd_L_draw, dd_L_far, dd_L_radix, dd_L_length, dd_L_constant, dd_L_fine, dd_L_wrap, dd_L_tags, dd_L_figures, dd_L_over, dd_L_long, dd_L_words, dd_L_lines, dd_L_number_in, dd_L_tag_in, dd_L_pile_in, dd_L_is, dd_L_bent, dd_L_truth, dd_L_judged_right, dd_L_right, dd_L_plain_right, dd_law, dd_Wrap___init__, dd_Wrap_grown, dd_Wrap___eq__, dd_Stack___init__, dd_Stack_grown]
def faL : List He.Fa := [.glo "_wall", .glo "is_integer", .glo "is_between", .glo "check_length", .glo "check_base", .glo "figures_of", .glo "amount_of", .glo "fault_in", .glo "begun", .glo "total_of", .glo "in_pieces", .glo "wrap_in", .glo "check_wrap", .glo "fineness_of", .glo "check_wraps", .glo "stack_in", .glo "is_length", .glo "stack_told", .glo "are_integers", .glo "unlike_sizes", .glo "has_size", .glo "shows_payload", .glo "shows_missed", .glo "shows_doubled", .glo "steps_told", .glo "first_stop", .glo "shows_stopped", .glo "holds", .glo "_law_cell", .glo "_law_pool", .glo "_law_draw", .glo "_law_far", .glo "_law_radix", .glo "_law_length", .glo "_law_constant", .glo "_law_fine", .glo "_law_wrap", .glo "_law_tags", .glo "_law_figures", .glo "_law_over", .glo "_law_long", .glo "_law_words", .glo "_law_lines", .glo "_law_number_in", .glo "_law_tag_in", .glo "_law_pile_in", .glo "_law_is", .glo "_law_bent", .glo "_law_truth", .glo "_law_judged_right", .glo "_law_right", .glo "_law_plain_right", .glo "law", .free "abs", .free "all", .free "bool", .free "divmod", .free "enumerate", .free "int", .free "isinstance", .free "len", .free "list", .free "max", .free "min", .free "range", .free "repr", .free "str", .free "tuple", .int "MOST_LENGTH" 1000000000000000000000000000000000000000000000000000000000000, .int "MOST_WRAPS" 6, .int "MOST_FINENESS" 120, .int "MOST_CONSTANT" 1000, .int "LEAST_BASE" 2, .int "MOST_BASE" 256, .int "MOST_PIECE" 60, .int "MOST_CODE" 120, .int "LAST_LENGTH" 999999999999999999999999999999999999999999999999999999999999, .str "TENS" "0123456789", .glo "Wrap", .cls "Wrap", .mkr "Wrap", .noat "Wrap" "kind", .noat "Wrap" "numbers", .noat "Wrap" "words", .meth "Wrap" "__init__", .meth "Wrap" "grown", .meth "Wrap" "__eq__", .glo "Stack", .cls "Stack", .mkr "Stack", .noat "Stack" "base", .noat "Stack" "wraps", .noat "Stack" "fineness", .meth "Stack" "__init__", .meth "Stack" "grown", .glo "RANGES"]
def loose0 : List Str := ["_wall", "is_integer", "is_between", "check_length", "check_base", "figures_of", "amount_of", "fault_in", "begun", "total_of", "in_pieces", "wrap_in", "check_wrap", "fineness_of", "check_wraps", "stack_in", "is_length", "stack_told", "are_integers", "unlike_sizes", "has_size", "shows_payload", "shows_missed", "shows_doubled", "steps_told", "first_stop", "shows_stopped", "holds", "_law_cell", "_law_pool"]
def loose1 : List Str := ["_law_draw", "_law_far", "_law_radix", "_law_length", "_law_constant", "_law_fine", "_law_wrap", "_law_tags", "_law_figures", "_law_over", "_law_long", "_law_words", "_law_lines", "_law_number_in", "_law_tag_in", "_law_pile_in", "_law_is", "_law_bent", "_law_truth", "_law_judged_right", "_law_right", "_law_plain_right", "Misfit", "Excess", "NotAWrap", "InvalidKind", "InvalidBase", "InvalidLength", "InvalidNumber", "InvalidText"]
def loose2 : List Str := ["InvalidNumbers", "InvalidWraps", "TooFine", "TooManyWraps", "Wrap", "Stack", "MOST_LENGTH", "MOST_WRAPS", "MOST_FINENESS", "MOST_CONSTANT", "TENS", "LEAST_BASE", "MOST_BASE", "MOST_PIECE", "MOST_CODE", "RANGES", "LAST_LENGTH"]
def looseL : List Str := loose0 ++ loose1 ++ loose2
abbrev RR : PySem.W.OpenRow := PySem.W.OpenLaw.row PySem.Challenge.rw_sizestacks_k56_whole_payloads_and_missed
def tabL : List He.Tab := [(fun K => He.ga K "RANGES", ["plus", "told", "whole", "pieces", "cut", "coded", "filled"])]
def fbL (K : PySem.W.Frag) : Bool := [isiB K (He.ga K "Wrap"), isiB K (He.ga K "Stack"), kitTabB K ["Wrap", "Stack"], rngB K (He.ga K "RANGES") (Wr.plus 0).kind (Wr.plus 0).rng, rngB K (He.ga K "RANGES") (Wr.told 0).kind (Wr.told 0).rng, rngB K (He.ga K "RANGES") (Wr.whole 0).kind (Wr.whole 0).rng, rngB K (He.ga K "RANGES") (Wr.pieces 0 0).kind (Wr.pieces 0 0).rng, rngB K (He.ga K "RANGES") (Wr.cut 0 0).kind (Wr.cut 0 0).rng, rngB K (He.ga K "RANGES") (Wr.coded 0 0).kind (Wr.coded 0 0).rng, rngB K (He.ga K "RANGES") (Wr.filled 0).kind (Wr.filled 0).rng, keysB K (He.ga K "RANGES")].all id
abbrev hk : PySem.W.Hook := hookX 5 fbL faL fnL tabL
def ob (z : PySem.W.SharedT) : AlX := obsXG 5 fbL faL fnL tabL (HandSHeadRun.getT z)
theorem ob_eq (z : PySem.W.SharedT) : ob z = hk.obs z.abs := obsXG_eq (HandSHeadRun.getT_eq z)
theorem runF (w : World) : HandSHeadRun.RunEq RR (PySem.W.view RR.prog [83]) hk ob 30000 looseL (w.withFollow "special-get-raises" false) := by
  intro os
  kernel_rfl
theorem runT (w : World) : HandSHeadRun.RunEq RR (PySem.W.view RR.prog [83]) hk ob 30000 looseL (w.withFollow "special-get-raises" true) := by
  intro os
  kernel_rfl
theorem run (w : World) : HandSHeadRun.RunEq RR (PySem.W.view RR.prog [83]) hk ob 30000 looseL w :=
  PySem.W.byRow2 "special-get-raises" (P := fun w => HandSHeadRun.RunEq RR (PySem.W.view RR.prog [83]) hk ob 30000 looseL w) runF runT w
theorem tx_of {w : World} {K : PySem.W.Frag} {h : Heap} {mg : Str → Option Value} (X : K.In h) (G : h.Ns mainGlobals mg) (c0 : SaysX fbL faL fnL tabL w K) : Tx w K mg := by
  have c : He.SaysD faL fnL K := c0.t.d
  exact {
    d__wall := let ⟨fd, F⟩ := c.def_ 0 (d := dd__wall) rfl; ⟨_, fd, F, He.glo_ok X G (c.fact 0 (f := .glo "_wall") rfl)⟩,
    d_is_integer := let ⟨fd, F⟩ := c.def_ 1 (d := dd_is_integer) rfl; ⟨_, fd, F, He.glo_ok X G (c.fact 1 (f := .glo "is_integer") rfl)⟩,
    d_is_between := let ⟨fd, F⟩ := c.def_ 2 (d := dd_is_between) rfl; ⟨_, fd, F, He.glo_ok X G (c.fact 2 (f := .glo "is_between") rfl)⟩,
    d_check_length := let ⟨fd, F⟩ := c.def_ 3 (d := dd_check_length) rfl; ⟨_, fd, F, He.glo_ok X G (c.fact 3 (f := .glo "check_length") rfl)⟩,
    d_check_base := let ⟨fd, F⟩ := c.def_ 4 (d := dd_check_base) rfl; ⟨_, fd, F, He.glo_ok X G (c.fact 4 (f := .glo "check_base") rfl)⟩,
    d_figures_of := let ⟨fd, F⟩ := c.def_ 5 (d := dd_figures_of) rfl; ⟨_, fd, F, He.glo_ok X G (c.fact 5 (f := .glo "figures_of") rfl)⟩,
    d_amount_of := let ⟨fd, F⟩ := c.def_ 6 (d := dd_amount_of) rfl; ⟨_, fd, F, He.glo_ok X G (c.fact 6 (f := .glo "amount_of") rfl)⟩,
    d_fault_in := let ⟨fd, F⟩ := c.def_ 7 (d := dd_fault_in) rfl; ⟨_, fd, F, He.glo_ok X G (c.fact 7 (f := .glo "fault_in") rfl)⟩,
    d_begun := let ⟨fd, F⟩ := c.def_ 8 (d := dd_begun) rfl; ⟨_, fd, F, He.glo_ok X G (c.fact 8 (f := .glo "begun") rfl)⟩,
    d_total_of := let ⟨fd, F⟩ := c.def_ 9 (d := dd_total_of) rfl; ⟨_, fd, F, He.glo_ok X G (c.fact 9 (f := .glo "total_of") rfl)⟩,
    d_in_pieces := let ⟨fd, F⟩ := c.def_ 10 (d := dd_in_pieces) rfl; ⟨_, fd, F, He.glo_ok X G (c.fact 10 (f := .glo "in_pieces") rfl)⟩,
    d_wrap_in := let ⟨fd, F⟩ := c.def_ 11 (d := dd_wrap_in) rfl; ⟨_, fd, F, He.glo_ok X G (c.fact 11 (f := .glo "wrap_in") rfl)⟩,
    d_check_wrap := let ⟨fd, F⟩ := c.def_ 12 (d := dd_check_wrap) rfl; ⟨_, fd, F, He.glo_ok X G (c.fact 12 (f := .glo "check_wrap") rfl)⟩,
    d_fineness_of := let ⟨fd, F⟩ := c.def_ 13 (d := dd_fineness_of) rfl; ⟨_, fd, F, He.glo_ok X G (c.fact 13 (f := .glo "fineness_of") rfl)⟩,
    d_check_wraps := let ⟨fd, F⟩ := c.def_ 14 (d := dd_check_wraps) rfl; ⟨_, fd, F, He.glo_ok X G (c.fact 14 (f := .glo "check_wraps") rfl)⟩,
    d_stack_in := let ⟨fd, F⟩ := c.def_ 15 (d := dd_stack_in) rfl; ⟨_, fd, F, He.glo_ok X G (c.fact 15 (f := .glo "stack_in") rfl)⟩,
    d_is_length := let ⟨fd, F⟩ := c.def_ 16 (d := dd_is_length) rfl; ⟨_, fd, F, He.glo_ok X G (c.fact 16 (f := .glo "is_length") rfl)⟩,
    d_stack_told := let ⟨fd, F⟩ := c.def_ 17 (d := dd_stack_told) rfl; ⟨_, fd, F, He.glo_ok X G (c.fact 17 (f := .glo "stack_told") rfl)⟩,
    d_are_integers := let ⟨fd, F⟩ := c.def_ 18 (d := dd_are_integers) rfl; ⟨_, fd, F, He.glo_ok X G (c.fact 18 (f := .glo "are_integers") rfl)⟩,
    d_unlike_sizes := let ⟨fd, F⟩ := c.def_ 19 (d := dd_unlike_sizes) rfl; ⟨_, fd, F, He.glo_ok X G (c.fact 19 (f := .glo "unlike_sizes") rfl)⟩,
    d_has_size := let ⟨fd, F⟩ := c.def_ 20 (d := dd_has_size) rfl; ⟨_, fd, F, He.glo_ok X G (c.fact 20 (f := .glo "has_size") rfl)⟩,
    d_shows_payload := let ⟨fd, F⟩ := c.def_ 21 (d := dd_shows_payload) rfl; ⟨_, fd, F, He.glo_ok X G (c.fact 21 (f := .glo "shows_payload") rfl)⟩,
    d_shows_missed := let ⟨fd, F⟩ := c.def_ 22 (d := dd_shows_missed) rfl; ⟨_, fd, F, He.glo_ok X G (c.fact 22 (f := .glo "shows_missed") rfl)⟩,
    d_shows_doubled := let ⟨fd, F⟩ := c.def_ 23 (d := dd_shows_doubled) rfl; ⟨_, fd, F, He.glo_ok X G (c.fact 23 (f := .glo "shows_doubled") rfl)⟩,
    d_steps_told := let ⟨fd, F⟩ := c.def_ 24 (d := dd_steps_told) rfl; ⟨_, fd, F, He.glo_ok X G (c.fact 24 (f := .glo "steps_told") rfl)⟩,
    d_first_stop := let ⟨fd, F⟩ := c.def_ 25 (d := dd_first_stop) rfl; ⟨_, fd, F, He.glo_ok X G (c.fact 25 (f := .glo "first_stop") rfl)⟩,
    d_shows_stopped := let ⟨fd, F⟩ := c.def_ 26 (d := dd_shows_stopped) rfl; ⟨_, fd, F, He.glo_ok X G (c.fact 26 (f := .glo "shows_stopped") rfl)⟩,
    d_holds := let ⟨fd, F⟩ := c.def_ 27 (d := dd_holds) rfl; ⟨_, fd, F, He.glo_ok X G (c.fact 27 (f := .glo "holds") rfl)⟩,
    d_L_cell := let ⟨fd, F⟩ := c.def_ 28 (d := dd_L_cell) rfl; ⟨_, fd, F, He.glo_ok X G (c.fact 28 (f := .glo "_law_cell") rfl)⟩,
    d_L_pool := let ⟨fd, F⟩ := c.def_ 29 (d := dd_L_pool) rfl; ⟨_, fd, F, He.glo_ok X G (c.fact 29 (f := .glo "_law_pool") rfl)⟩,
    d_L_draw := let ⟨fd, F⟩ := c.def_ 30 (d := dd_L_draw) rfl; ⟨_, fd, F, He.glo_ok X G (c.fact 30 (f := .glo "_law_draw") rfl)⟩,
    d_L_far := let ⟨fd, F⟩ := c.def_ 31 (d := dd_L_far) rfl; ⟨_, fd, F, He.glo_ok X G (c.fact 31 (f := .glo "_law_far") rfl)⟩,
    d_L_radix := let ⟨fd, F⟩ := c.def_ 32 (d := dd_L_radix) rfl; ⟨_, fd, F, He.glo_ok X G (c.fact 32 (f := .glo "_law_radix") rfl)⟩,
    d_L_length := let ⟨fd, F⟩ := c.def_ 33 (d := dd_L_length) rfl; ⟨_, fd, F, He.glo_ok X G (c.fact 33 (f := .glo "_law_length") rfl)⟩,
    d_L_constant := let ⟨fd, F⟩ := c.def_ 34 (d := dd_L_constant) rfl; ⟨_, fd, F, He.glo_ok X G (c.fact 34 (f := .glo "_law_constant") rfl)⟩,
    d_L_fine := let ⟨fd, F⟩ := c.def_ 35 (d := dd_L_fine) rfl; ⟨_, fd, F, He.glo_ok X G (c.fact 35 (f := .glo "_law_fine") rfl)⟩,
    d_L_wrap := let ⟨fd, F⟩ := c.def_ 36 (d := dd_L_wrap) rfl; ⟨_, fd, F, He.glo_ok X G (c.fact 36 (f := .glo "_law_wrap") rfl)⟩,
    d_L_tags := let ⟨fd, F⟩ := c.def_ 37 (d := dd_L_tags) rfl; ⟨_, fd, F, He.glo_ok X G (c.fact 37 (f := .glo "_law_tags") rfl)⟩,
    d_L_figures := let ⟨fd, F⟩ := c.def_ 38 (d := dd_L_figures) rfl; ⟨_, fd, F, He.glo_ok X G (c.fact 38 (f := .glo "_law_figures") rfl)⟩,
    d_L_over := let ⟨fd, F⟩ := c.def_ 39 (d := dd_L_over) rfl; ⟨_, fd, F, He.glo_ok X G (c.fact 39 (f := .glo "_law_over") rfl)⟩,
    d_L_long := let ⟨fd, F⟩ := c.def_ 40 (d := dd_L_long) rfl; ⟨_, fd, F, He.glo_ok X G (c.fact 40 (f := .glo "_law_long") rfl)⟩,
    d_L_words := let ⟨fd, F⟩ := c.def_ 41 (d := dd_L_words) rfl; ⟨_, fd, F, He.glo_ok X G (c.fact 41 (f := .glo "_law_words") rfl)⟩,
    d_L_lines := let ⟨fd, F⟩ := c.def_ 42 (d := dd_L_lines) rfl; ⟨_, fd, F, He.glo_ok X G (c.fact 42 (f := .glo "_law_lines") rfl)⟩,
    d_L_number_in := let ⟨fd, F⟩ := c.def_ 43 (d := dd_L_number_in) rfl; ⟨_, fd, F, He.glo_ok X G (c.fact 43 (f := .glo "_law_number_in") rfl)⟩,
    d_L_tag_in := let ⟨fd, F⟩ := c.def_ 44 (d := dd_L_tag_in) rfl; ⟨_, fd, F, He.glo_ok X G (c.fact 44 (f := .glo "_law_tag_in") rfl)⟩,
    d_L_pile_in := let ⟨fd, F⟩ := c.def_ 45 (d := dd_L_pile_in) rfl; ⟨_, fd, F, He.glo_ok X G (c.fact 45 (f := .glo "_law_pile_in") rfl)⟩,
    d_L_is := let ⟨fd, F⟩ := c.def_ 46 (d := dd_L_is) rfl; ⟨_, fd, F, He.glo_ok X G (c.fact 46 (f := .glo "_law_is") rfl)⟩,
    d_L_bent := let ⟨fd, F⟩ := c.def_ 47 (d := dd_L_bent) rfl; ⟨_, fd, F, He.glo_ok X G (c.fact 47 (f := .glo "_law_bent") rfl)⟩,
    d_L_truth := let ⟨fd, F⟩ := c.def_ 48 (d := dd_L_truth) rfl; ⟨_, fd, F, He.glo_ok X G (c.fact 48 (f := .glo "_law_truth") rfl)⟩,
    d_L_judged_right := let ⟨fd, F⟩ := c.def_ 49 (d := dd_L_judged_right) rfl; ⟨_, fd, F, He.glo_ok X G (c.fact 49 (f := .glo "_law_judged_right") rfl)⟩,
    d_L_right := let ⟨fd, F⟩ := c.def_ 50 (d := dd_L_right) rfl; ⟨_, fd, F, He.glo_ok X G (c.fact 50 (f := .glo "_law_right") rfl)⟩,
    d_L_plain_right := let ⟨fd, F⟩ := c.def_ 51 (d := dd_L_plain_right) rfl; ⟨_, fd, F, He.glo_ok X G (c.fact 51 (f := .glo "_law_plain_right") rfl)⟩,
    d_law := let ⟨fd, F⟩ := c.def_ 52 (d := dd_law) rfl; ⟨_, fd, F, He.glo_ok X G (c.fact 52 (f := .glo "law") rfl)⟩,
    b_abs := He.free_ok X G (c.fact 53 (f := .free "abs") rfl),
    b_all := He.free_ok X G (c.fact 54 (f := .free "all") rfl),
    b_bool := He.free_ok X G (c.fact 55 (f := .free "bool") rfl),
    b_divmod := He.free_ok X G (c.fact 56 (f := .free "divmod") rfl),
    b_enumerate := He.free_ok X G (c.fact 57 (f := .free "enumerate") rfl),
    b_int := He.free_ok X G (c.fact 58 (f := .free "int") rfl),
    b_isinstance := He.free_ok X G (c.fact 59 (f := .free "isinstance") rfl),
    b_len := He.free_ok X G (c.fact 60 (f := .free "len") rfl),
    b_list := He.free_ok X G (c.fact 61 (f := .free "list") rfl),
    b_max := He.free_ok X G (c.fact 62 (f := .free "max") rfl),
    b_min := He.free_ok X G (c.fact 63 (f := .free "min") rfl),
    b_range := He.free_ok X G (c.fact 64 (f := .free "range") rfl),
    b_repr := He.free_ok X G (c.fact 65 (f := .free "repr") rfl),
    b_str := He.free_ok X G (c.fact 66 (f := .free "str") rfl),
    b_tuple := He.free_ok X G (c.fact 67 (f := .free "tuple") rfl),
    c_MOST_LENGTH := He.int_ok X G (c.fact 68 (f := .int "MOST_LENGTH" 1000000000000000000000000000000000000000000000000000000000000) rfl),
    c_MOST_WRAPS := He.int_ok X G (c.fact 69 (f := .int "MOST_WRAPS" 6) rfl),
    c_MOST_FINENESS := He.int_ok X G (c.fact 70 (f := .int "MOST_FINENESS" 120) rfl),
    c_MOST_CONSTANT := He.int_ok X G (c.fact 71 (f := .int "MOST_CONSTANT" 1000) rfl),
    c_LEAST_BASE := He.int_ok X G (c.fact 72 (f := .int "LEAST_BASE" 2) rfl),
    c_MOST_BASE := He.int_ok X G (c.fact 73 (f := .int "MOST_BASE" 256) rfl),
    c_MOST_PIECE := He.int_ok X G (c.fact 74 (f := .int "MOST_PIECE" 60) rfl),
    c_MOST_CODE := He.int_ok X G (c.fact 75 (f := .int "MOST_CODE" 120) rfl),
    c_LAST_LENGTH := He.int_ok X G (c.fact 76 (f := .int "LAST_LENGTH" 999999999999999999999999999999999999999999999999999999999999) rfl),
    c_TENS := He.str_ok X G (c.fact 77 (f := .str "TENS" "0123456789") rfl),
    k_Wrap := He.glo_ok X G (c.fact 78 (f := .glo "Wrap") rfl),
    cl_Wrap := He.cls_ok (c.fact 79 (f := .cls "Wrap") rfl),
    mk_Wrap := He.mkr_ok (c.fact 80 (f := .mkr "Wrap") rfl),
    na_Wrap_kind := He.noat_ok (c.fact 81 (f := .noat "Wrap" "kind") rfl),
    na_Wrap_numbers := He.noat_ok (c.fact 82 (f := .noat "Wrap" "numbers") rfl),
    na_Wrap_words := He.noat_ok (c.fact 83 (f := .noat "Wrap" "words") rfl),
    me_Wrap___init__ := He.meth_ok (c.fact 84 (f := .meth "Wrap" "__init__") rfl),
    me_Wrap_grown := He.meth_ok (c.fact 85 (f := .meth "Wrap" "grown") rfl),
    me_Wrap___eq__ := He.meth_ok (c.fact 86 (f := .meth "Wrap" "__eq__") rfl),
    k_Stack := He.glo_ok X G (c.fact 87 (f := .glo "Stack") rfl),
    cl_Stack := He.cls_ok (c.fact 88 (f := .cls "Stack") rfl),
    mk_Stack := He.mkr_ok (c.fact 89 (f := .mkr "Stack") rfl),
    na_Stack_base := He.noat_ok (c.fact 90 (f := .noat "Stack" "base") rfl),
    na_Stack_wraps := He.noat_ok (c.fact 91 (f := .noat "Stack" "wraps") rfl),
    na_Stack_fineness := He.noat_ok (c.fact 92 (f := .noat "Stack" "fineness") rfl),
    me_Stack___init__ := He.meth_ok (c.fact 93 (f := .meth "Stack" "__init__") rfl),
    me_Stack_grown := He.meth_ok (c.fact 94 (f := .meth "Stack" "grown") rfl),
    k_RANGES := He.glo_ok X G (c.fact 95 (f := .glo "RANGES") rfl),
    dm_Wrap___init__ := c.def_ 53 (d := dd_Wrap___init__) rfl,
    dm_Wrap_grown := c.def_ 54 (d := dd_Wrap_grown) rfl,
    dm_Wrap___eq__ := c.def_ 55 (d := dd_Wrap___eq__) rfl,
    dm_Stack___init__ := c.def_ 56 (d := dd_Stack___init__) rfl,
    dm_Stack_grown := c.def_ 57 (d := dd_Stack_grown) rfl,
    kd := c0.t.tab 0 (t := (fun K => He.ga K "RANGES", ["plus", "told", "whole", "pieces", "cut", "coded", "filled"])) rfl,
    rg := fun a => by
      cases a with
      | plus _ => exact rngB_ok (K := K) (kd := (Wr.plus 0).kind) (qs := (Wr.plus 0).rng) (List.all_eq_true.mp c0.b _ (.tail _ (.tail _ (.tail _ (.head _)))))
      | told _ => exact rngB_ok (K := K) (kd := (Wr.told 0).kind) (qs := (Wr.told 0).rng) (List.all_eq_true.mp c0.b _ (.tail _ (.tail _ (.tail _ (.tail _ (.head _))))))
      | whole _ => exact rngB_ok (K := K) (kd := (Wr.whole 0).kind) (qs := (Wr.whole 0).rng) (List.all_eq_true.mp c0.b _ (.tail _ (.tail _ (.tail _ (.tail _ (.tail _ (.head _)))))))
      | pieces _ _ => exact rngB_ok (K := K) (kd := (Wr.pieces 0 0).kind) (qs := (Wr.pieces 0 0).rng) (List.all_eq_true.mp c0.b _ (.tail _ (.tail _ (.tail _ (.tail _ (.tail _ (.tail _ (.head _))))))))
      | cut _ _ => exact rngB_ok (K := K) (kd := (Wr.cut 0 0).kind) (qs := (Wr.cut 0 0).rng) (List.all_eq_true.mp c0.b _ (.tail _ (.tail _ (.tail _ (.tail _ (.tail _ (.tail _ (.tail _ (.head _)))))))))
      | coded _ _ => exact rngB_ok (K := K) (kd := (Wr.coded 0 0).kind) (qs := (Wr.coded 0 0).rng) (List.all_eq_true.mp c0.b _ (.tail _ (.tail _ (.tail _ (.tail _ (.tail _ (.tail _ (.tail _ (.tail _ (.head _))))))))))
      | filled _ => exact rngB_ok (K := K) (kd := (Wr.filled 0).kind) (qs := (Wr.filled 0).rng) (List.all_eq_true.mp c0.b _ (.tail _ (.tail _ (.tail _ (.tail _ (.tail _ (.tail _ (.tail _ (.tail _ (.tail _ (.head _))))))))))),
    rn := fun _ hz => keysB_ok (List.all_eq_true.mp c0.b _ (.tail _ (.tail _ (.tail _ (.tail _ (.tail _ (.tail _ (.tail _ (.tail _ (.tail _ (.tail _ (.head _)))))))))))) hz,
    is_Wrap := isiB_ok (He.cls_ok (c.fact 79 (f := .cls "Wrap") rfl)) (List.all_eq_true.mp c0.b _ (.head _)),
    is_Stack := isiB_ok (He.cls_ok (c.fact 88 (f := .cls "Stack") rfl)) (List.all_eq_true.mp c0.b _ (.tail _ (.head _))),
    kt := kitTab_ok (List.all_eq_true.mp c0.b _ (.tail _ (.tail _ (.head _)))) }
def spLaw (K : PySem.W.Frag) : Sp := fun vs H Q _ => ∃ (a : Addr) (ns : List Int), vs = [.ref a] ∧ SqL K H a (ns.map V.int) ∧ ns.length ≤ 63 ∧ (∀ z ∈ ns, Builtin.Int.intBits z ≤ 1048576) ∧ ∀ H', Q (.bl true) H'

/-! ### what a number is (for numbers alone) -/
def spIsInt : Sp := fun vs H Q _ => ∃ i : Int, vs = [.int i] ∧ Q (.bl true) H
def spBetween : Sp := fun vs H Q _ => ∃ v l m : Int, vs = [.int v, .int l, .int m] ∧ Q (.bl (decide (l ≤ v ∧ v ≤ m))) H
def spLength : Sp := fun vs H Q _ => ∃ n : Int, vs = [.int n] ∧ 0 ≤ n ∧ n ≤ 10 ^ 60 - 1 ∧ Q .non H
def spBase : Sp := fun vs H Q _ => ∃ n : Int, vs = [.int n] ∧ 2 ≤ n ∧ n ≤ 256 ∧ Q .non H
def spFig : Sp := fun vs H Q _ => ∃ n b : Int, vs = [.int n, .int b] ∧ 2 ≤ b ∧ b ≤ 256 ∧ n < 2 ^ 4000 ∧ ∀ k, IsF b n k → Q (.int k) H
section
variable {P : Program} {w : World} {K : PySem.W.Frag} {mg : Str → Option Value} {base : Heap}
theorem ok_is_integer (T : Tx w K mg) : Prom P w K mg base CX0 1 "is_integer" s_is_integer ["value"] spIsInt := by
  refine Prom.of T.d_is_integer sc_is_integer (fun vs H Q E h => ?_) (fun _ _ _ _ _ _ us hl => match us, hl with | [_], _ => rfl) (fun f cdv A outer s H vs Q E hr h => ?_)
  · obtain ⟨i, rfl, _⟩ := h
    rfl
  · obtain ⟨i, rfl, k⟩ := h
    refine ⟨_, (pss_one (ps_ret (pe_and (pe_callB call_isi (by rfl) T.b_isinstance (by decide +kernel) (pa_cons (pv 0) (pa_cons (pe_bltn (v := .ty "int") (by rfl) T.b_int (by decide +kernel) rfl) pa_nil))) (pe_and (pe_cmpR op_isnotBl (pv 0) pe_bl (nomark _)) (pe_one (pe_cmpR op_isnotBl (pv 0) pe_bl (nomark _))))))), ?_⟩
    refine ⟨_, rfl, _, _, _, _, true, rfl, .ty _, .base (.int _), kit_ty (by decide +kernel), true, rfl, iteT ?_⟩
    refine ⟨_, rfl, _, rfl, true, rfl, iteT ?_⟩
    exact ⟨_, rfl, _, rfl, k⟩
theorem ok_is_between (T : Tx w K mg) : Prom P w K mg base CX0 2 "is_between" s_is_between ["value", "least", "most"] spBetween := by
  refine Prom.of T.d_is_between sc_is_between (fun vs H Q E h => ?_) (fun _ _ _ _ _ _ us hl => match us, hl with | [_, _, _], _ => rfl) (fun f cdv A outer s H vs Q E hr h => ?_)
  · obtain ⟨v, l, m, rfl, _⟩ := h
    rfl
  · obtain ⟨v, l, m, rfl, k⟩ := h
    refine ⟨_, (pss_one (ps_ret (pe_and (pe_callP (ok_is_integer T) (hr.mono (by decide)) (by rfl) pass0 (pa_cons (pv 0) pa_nil)) (pe_one (pe_chain op_le op_le (pv 1) (pv 0) (pv 2)))))), ?_⟩
    refine ⟨_, rfl, v, rfl, true, rfl, iteT ?_⟩
    refine ⟨_, rfl, _, rfl, _, _, rfl, rfl, _, rfl, ifd (fun h1 => ?_) (fun h1 => ?_)⟩
    · refine ⟨_, rfl, _, _, rfl, rfl, ?_⟩
      show Q (.bl (decide (v ≤ m))) H
      have e : decide (v ≤ m) = decide (l ≤ v ∧ v ≤ m) := by simp [h1]
      rw [e]
      exact k
    · show Q (.bl false) H
      have e : false = decide (l ≤ v ∧ v ≤ m) := by simp [h1]
      rw [e]
      exact k
end
section
variable {P : Program} {w : World} {K : PySem.W.Frag} {mg : Str → Option Value} {base : Heap}
theorem ok_check_length (T : Tx w K mg) : Prom P w K mg base CX0 3 "check_length" s_check_length ["value"] spLength := by
  refine Prom.of T.d_check_length sc_check_length (fun vs H Q E h => ?_) (fun _ _ _ _ _ _ us hl => match us, hl with | [_], _ => rfl) (fun f cdv A outer s H vs Q E hr h => ?_)
  · obtain ⟨i, rfl, _⟩ := h
    rfl
  · obtain ⟨i, rfl, h0, h1, k⟩ := h
    refine ⟨_, (pss_one (ps_if (pt_not (pt_val (pe_callP (ok_is_between T) (hr.mono (by decide)) (by rfl) pass0 (pa_cons (pv 0) (pa_cons pe_int (pa_cons (pe_op op_sub (pe_gint T.c_MOST_LENGTH) pe_int) pa_nil)))))) (pss_one ps_never) pss_nil)), ?_⟩
    refine ⟨_, rfl, _, _, rfl, rfl, _, _, _, rfl, _, rfl, ?_⟩
    exact ifn (fun c => absurd (show (0 : Int) ≤ i ∧ i ≤ _ from ⟨h0, by omega⟩) c) (fun _ => k)
end
section
variable {P : Program} {w : World} {K : PySem.W.Frag} {mg : Str → Option Value} {base : Heap}
theorem ok_check_base (T : Tx w K mg) : Prom P w K mg base CX0 3 "check_base" s_check_base ["value"] spBase := by
  refine Prom.of T.d_check_base sc_check_base (fun vs H Q E h => ?_) (fun _ _ _ _ _ _ us hl => match us, hl with | [_], _ => rfl) (fun f cdv A outer s H vs Q E hr h => ?_)
  · obtain ⟨i, rfl, _⟩ := h
    rfl
  · obtain ⟨i, rfl, h0, h1, k⟩ := h
    refine ⟨_, (pss_one (ps_if (pt_not (pt_val (pe_callP (ok_is_between T) (hr.mono (by decide)) (by rfl) pass0 (pa_cons (pv 0) (pa_cons (pe_gint T.c_LEAST_BASE) (pa_cons (pe_gint T.c_MOST_BASE) pa_nil)))))) (pss_one ps_never) pss_nil)), ?_⟩
    refine ⟨_, rfl, _, _, _, rfl, _, rfl, ?_⟩
    exact ifn (fun c => absurd (show (2 : Int) ≤ i ∧ i ≤ 256 from ⟨h0, h1⟩) c) (fun _ => k)
end
section
variable {P : Program} {w : World} {K : PySem.W.Frag} {mg : Str → Option Value} {base : Heap}
theorem fig_mul {b p e n : Int} {j : Nat} (hb : 2 ≤ b) (hb2 : b ≤ 256) (hn : n < 2 ^ 4000) (hp : p = b ^ (j + 1)) (hj : j = 0 ∨ b ^ j ≤ n) (he : e = b ^ 8) : CMulW p e := by
  have b8 : b ^ 8 ≤ 256 ^ 8 := by
    have g : ∀ m : Nat, b ^ m ≤ 256 ^ m := fun m => by
      induction m with
      | zero => rw [Int.pow_zero, Int.pow_zero]; exact Int.le_refl _
      | succ m ih =>
        rw [Int.pow_succ, Int.pow_succ]
        exact Int.mul_le_mul ih hb2 (by omega) (Int.le_of_lt (Int.lt_of_lt_of_le (by decide) (pow_pos (show (1 : Int) ≤ 256 by decide) m)))
    exact g 8
  have p1 := pow_pos (show 1 ≤ b by omega) (j + 1)
  have p8 := pow_pos (show 1 ≤ b by omega) 8
  have hq : b ^ j ≤ 2 ^ 4000 := by
    rcases hj with h | h
    · rw [h, Int.pow_zero]
      exact pow_pos (by decide) 4000
    · omega
  have pj := pow_pos (show 1 ≤ b by omega) j
  have hp2 : p ≤ 2 ^ 4000 * 256 := by
    rw [hp, Int.pow_succ]
    exact Int.mul_le_mul hq hb2 (by omega) (Int.le_of_lt (Int.lt_of_lt_of_le (by decide) (pow_pos (show (1 : Int) ≤ 2 by decide) 4000)))
  refine wide_mul (a := 4009) (b := 65) ?_ ?_ (by decide) (by decide) (by decide)
  · have h1 : p < 2 ^ 4009 := Int.lt_of_le_of_lt hp2 (by decide)
    have h2 : ((p.natAbs : Nat) : Int) < ((2 ^ 4009 : Nat) : Int) := by
      rw [Int.natCast_pow]
      have e : ((2 : Nat) : Int) = 2 := rfl
      rw [e]
      omega
    exact Int.ofNat_lt.mp h2
  · have h1 : e < 2 ^ 65 := by
      rw [he]
      exact Int.lt_of_le_of_lt b8 (by decide)
    have h2 : ((e.natAbs : Nat) : Int) < ((2 ^ 65 : Nat) : Int) := by
      rw [Int.natCast_pow]
      have e : ((2 : Nat) : Int) = 2 := rfl
      rw [e]
      omega
    exact Int.ofNat_lt.mp h2
theorem ok_figures_of (T : Tx w K mg) : Prom P w K mg base CX0 1 "figures_of" s_figures_of ["length", "base"] spFig := by
  refine Prom.of T.d_figures_of sc_figures_of (fun vs H Q E h => ?_) (fun _ _ _ _ _ _ us hl => match us, hl with | [_, _], _ => rfl) (fun f cdv A outer s H vs Q E hr h => ?_)
  · obtain ⟨n, b, rfl, _⟩ := h
    rfl
  · obtain ⟨n, b, rfl, hb, hb2, hn, k⟩ := h
    refine ⟨_, (pss_cons (ps_par3 (i := 2) (j := 3) (l := 4) (by rfl) sc_figures_of.nd rfl rfl rfl (by decide) (by decide) (by decide) rfl rfl rfl (pa_cons pe_int (pa_cons (pv 1) (pa_cons pe_int pa_nil))) (by rfl))
      (pss_cons (ps_for PassesOwn.never (by rfl) (pi_range1 (by rfl) T.b_range (pa_cons pe_int pa_nil)) (pg_name (i := 5) sc_figures_of.nd rfl (Or.inl rfl)) (pss_one (ps_set (i := 4) sc_figures_of.nd rfl (Or.inl rfl) (pe_op op_mul (pv 4) (pv 1)))))
      (pss_cons (ps_while PassesOwn.never (pt_cmp (pc_le (pe_op op_mulW (pv 3) (pv 4)) (pv 0))) (pss_one (ps_par (i := 2) (j := 3) (by rfl) sc_figures_of.nd rfl rfl (by decide) rfl rfl (pa_cons (pe_op op_add (pv 2) pe_int) (pa_cons (pe_op op_mulW (pv 3) (pv 4)) pa_nil)) (by rfl))))
      (pss_cons (ps_while PassesOwn.never (pt_cmp (pc_le (pv 3) (pv 0))) (pss_one (ps_par (i := 2) (j := 3) (by rfl) sc_figures_of.nd rfl rfl (by decide) rfl rfl (pa_cons (pe_op op_add (pv 2) pe_int) (pa_cons (pe_op op_mul (pv 3) (pv 1)) pa_nil)) (by rfl))))
      (pss_one (ps_ret (pv 2))))))), ?_⟩
    -- count, power, eight = 1, base, 1
    refine ⟨_, rfl, _, _, _, rfl, ?_⟩
    -- for turn in range(8)
    refine ⟨8, rfl, by decide, by decide, for_range (lo := 0) (n := 8) (fun i σ H' => H' = H ∧ ∃ v, σ = [some (.int n), some (.int b), some (.int 1), some (.int b), some (.int (b ^ i)), v]) ⟨rfl, none, by rw [Int.pow_zero]; rfl⟩ ?_ ?_⟩
    · rintro i σ H' hi ⟨rfl, v, rfl⟩
      refine ⟨_, rfl, _, rfl, _, _, rfl, rfl, .inr ⟨by omega, by omega⟩, ?_⟩
      exact ⟨rfl, some (.int (0 + (i : Int))), by rw [Int.pow_succ]; rfl⟩
    · rintro σ H' ⟨rfl, v, rfl⟩
      -- while power * eight <= length
      refine ⟨fun m σ H1 => H1 = H' ∧ ∃ (j : Nat), σ = [some (.int n), some (.int b), some (.int ((j : Int) + 1)), some (.int (b ^ (j + 1))), some (.int (b ^ 8)), v] ∧ (j = 0 ∨ b ^ j ≤ n) ∧ m = (n + 1 - b ^ (j + 1)).toNat,
        ⟨_, rfl, 0, by rw [pow_one b]; rfl, .inl rfl, rfl⟩, ?_⟩
      rintro m σ H1 ⟨rfl, j, rfl, hj, hm⟩
      have p1 := pow_pos (show 1 ≤ b by omega) (j + 1)
      refine ⟨_, rfl, _, rfl, _, _, rfl, rfl, fig_mul hb hb2 hn rfl hj rfl, ?_⟩
      refine ⟨_, rfl, _, _, rfl, rfl, _, rfl, ifd (fun c => ?_) (fun c => ?_)⟩
      · refine ⟨_, fun σ' H' h => h, ?_⟩
        have e9 : b ^ (j + 1) * b ^ 8 = b ^ (j + 8 + 1) := by rw [← Int.pow_add]
        have e8 : b ^ (j + 1) < b ^ (j + 8 + 1) := Int.lt_of_lt_of_le (pow_lt hb (j + 1)) (pow_mono (show 1 ≤ b by omega) (by omega))
        refine ⟨_, rfl, _, _, rfl, rfl, _, rfl, _, rfl, _, _, rfl, rfl, fig_mul hb hb2 hn rfl hj rfl, _, _, rfl, ?_⟩
        refine ⟨_, ?_, rfl, j + 8, ?_, .inr ?_, rfl⟩
        · rw [hm]
          rw [e9] at c
          omega
        · show [some (V.int n), some (V.int b), some (V.int ((j : Int) + 1 + 8)), some (V.int (b ^ (j + 1) * b ^ 8)), some (V.int (b ^ 8)), v] = _
          rw [e9]
          have e : (j : Int) + 1 + 8 = ((j + 8 : Nat) : Int) + 1 := by omega
          rw [e]
        · rw [e9] at c
          exact Int.le_trans (pow_mono (show 1 ≤ b by omega) (by omega)) c
      · -- while power <= length
        refine ⟨fun m σ H2 => H2 = H1 ∧ ∃ (j : Nat), σ = [some (.int n), some (.int b), some (.int ((j : Int) + 1)), some (.int (b ^ (j + 1))), some (.int (b ^ 8)), v] ∧ (j = 0 ∨ b ^ j ≤ n) ∧ m = (n + 1 - b ^ (j + 1)).toNat,
          ⟨_, rfl, j, rfl, hj, rfl⟩, ?_⟩
        clear c hm p1 hj
        rintro m σ H2 ⟨rfl, j, rfl, hj, hm⟩
        have p1 := pow_pos (show 1 ≤ b by omega) (j + 1)
        refine ⟨_, rfl, _, rfl, _, _, rfl, rfl, _, rfl, ifd (fun c => ?_) (fun c => ?_)⟩
        · refine ⟨_, fun σ' H' h => h, ?_⟩
          have e8 := pow_lt hb (j + 1)
          refine ⟨_, rfl, _, _, rfl, rfl, _, rfl, _, rfl, _, _, rfl, rfl, .inr ⟨by omega, by omega⟩, _, _, rfl, ?_⟩
          refine ⟨_, ?_, rfl, j + 1, ?_, .inr c, rfl⟩
          · rw [hm]
            omega
          · show [some (V.int n), some (V.int b), some (V.int ((j : Int) + 1 + 1)), some (V.int (b ^ (j + 1) * b)), some (V.int (b ^ 8)), v] = _
            rw [← Int.pow_succ]
            have e : (j : Int) + 1 + 1 = ((j + 1 : Nat) : Int) + 1 := by omega
            rw [e]
        · exact ⟨_, rfl, k _ ⟨j, rfl, by omega, hj⟩⟩
end
section
variable {P : Program} {w : World} {K : PySem.W.Frag} {mg : Str → Option Value} {base : Heap}
def spTotal : Sp := fun vs H Q _ => ∃ n b : Int, vs = [.int n, .int b] ∧ 2 ≤ b ∧ b ≤ 256 ∧ 0 ≤ n ∧ n < 2 ^ 3900 ∧ ∀ s, IsTot b n s → s ≤ n + 4000 → Q (.int s) H
theorem ok_total_of (T : Tx w K mg) : Prom P w K mg base CX0 2 "total_of" s_total_of ["length", "base"] spTotal := by
  refine Prom.of T.d_total_of sc_total_of (fun vs H Q E h => ?_) (fun _ _ _ _ _ _ us hl => match us, hl with | [_, _], _ => rfl) (fun f cdv A outer s H vs Q E hr h => ?_)
  · obtain ⟨n, b, rfl, _⟩ := h
    rfl
  · obtain ⟨n, b, rfl, b0, b1, n0, n1, k⟩ := h
    have big : ∀ x : Int, x ≤ n + 4000 → x < 2 ^ 4000 := fun x hx => by
      have : (2 : Int) ^ 3900 + 4000 ≤ 2 ^ 4000 := by decide
      omega
    refine ⟨_, (pss_cons (ps_set (i := 2) sc_total_of.nd rfl (Or.inl rfl) (pe_callP (ok_figures_of T) (hr.mono (by decide)) (by rfl) pass0 (pa_cons (pv 0) (pa_cons (pv 1) pa_nil))))
      (pss_cons (ps_while PassesOwn.never (pt_cmp (pc_neI (pe_callP (ok_figures_of T) (hr.mono (by decide)) (by rfl) pass0 (pa_cons (pe_op op_add (pv 0) (pv 2)) (pa_cons (pv 1) pa_nil))) (pv 2))) (pss_one (ps_aug (i := 2) sc_total_of.nd rfl (.inl rfl) pe_int ip_add)))
      (pss_one (ps_ret (pe_op op_add (pv 0) (pv 2)))))), ?_⟩
    refine ⟨_, rfl, _, rfl, n, b, rfl, b0, b1, big n (by omega), fun z hz => ?_⟩
    have z0 := isF_pos hz
    have z1 := isF_bound b0 3900 n1 hz
    refine ⟨fun m σ H1 => H1 = H ∧ ((m = 1 ∧ σ = [some (.int n), some (.int b), some (.int z)]) ∨ (m = 0 ∧ σ = [some (.int n), some (.int b), some (.int (z + 1))] ∧ IsF b (n + z) (z + 1))), ⟨1, rfl, .inl ⟨rfl, rfl⟩⟩, ?_⟩
    rintro m σ H1 ⟨rfl, ⟨rfl, rfl⟩ | ⟨rfl, rfl, h1⟩⟩
    · refine ⟨_, rfl, _, rfl, _, _, rfl, rfl, _, rfl, n + z, b, rfl, b0, b1, big _ (by omega), fun g hg => ?_⟩
      refine ⟨_, rfl, _, _, rfl, rfl, _, rfl, ifn (fun c => ?_) (fun c => ?_)⟩
      · have e : g = z + 1 := (fig_grow b0 n0 hz hg).resolve_left c
        subst e
        exact ⟨_, fun _ _ h => h, _, rfl, _, _, rfl, rfl, 0, by decide, rfl, .inr ⟨rfl, rfl, hg⟩⟩
      · subst c
        exact ⟨_, rfl, _, rfl, _, _, rfl, rfl, k _ (isTot_first b0 hz hg) (by omega)⟩
    · refine ⟨_, rfl, _, rfl, _, _, rfl, rfl, _, rfl, n + (z + 1), b, rfl, b0, b1, big _ (by omega), fun g hg => ?_⟩
      have h2 := fig_next b0 n0 hz h1
      have e0 : n + (z + 1) = n + z + 1 := by omega
      rw [e0] at hg
      have e : g = z + 1 := isF_eq b0 hg h2
      refine ⟨_, rfl, _, _, rfl, rfl, _, rfl, ifn (fun c => absurd e c) (fun c => ?_)⟩
      refine ⟨_, rfl, _, rfl, _, _, rfl, rfl, ?_⟩
      show Q (.int (n + (z + 1))) _
      rw [e0]
      exact k _ (isTot_second b0 n0 hz h1) (by omega)
end
theorem log2_small {i : Int} (h0 : 0 ≤ i) (h1 : i < 10 ^ 70) : i.natAbs.log2 < 1920 := by
  have h3 : i.natAbs < 2 ^ 300 := Nat.lt_of_lt_of_le (show i.natAbs < 10 ^ 70 by omega) (by decide)
  exact Nat.lt_of_lt_of_le (PySem.Flt.log2_lt_of (by decide) h3) (by decide)
/-! ### ints shown -/
theorem shownAll_ints : ∀ xs : List Int, PyData.shownAll (xs.map PyData.int) = xs.map fun i => (toString i : Str)
  | [] => rfl
  | x :: xs => by
    show (toString x : Str) :: PyData.shownAll (xs.map PyData.int) = _
    rw [shownAll_ints xs]
    rfl
theorem sum_short : ∀ (xs : List Int), (∀ x ∈ xs, x.natAbs < 10 ^ 70) → ((xs.map fun i => (toString i : Str)).map (·.length)).sum ≤ 71 * xs.length
  | [], _ => by simp
  | x :: xs, h => by
    have h1 := sum_short xs fun y hy => h y (List.mem_cons_of_mem _ hy)
    have h2 : (toString x : Str).length ≤ 71 := by
      have := int_text_length_le10 (k := 70) (by decide) (h x (List.mem_cons_self ..))
      have e : (Str.ofString (toString x)).length = (toString x : String).length := PySem.ofString_length _
      show (Str.ofString (toString x)).length ≤ 71
      omega
    simp only [List.map_cons, List.sum_cons, List.length_cons]
    omega
def Shows (d : PyData) : Prop := d.showable = true ∧ d.hasDict = false ∧ d.depth ≤ 40 ∧ d.shown.length ≤ sizeLine
theorem ints_showable : ∀ xs : List Int, (∀ x ∈ xs, x.natAbs < 10 ^ 70) → PyData.showableAll (xs.map PyData.int) = true ∧ PyData.hasDictAll (xs.map PyData.int) = false ∧ PyData.depthAll (xs.map PyData.int) ≤ 2
  | [], _ => ⟨rfl, rfl, by decide⟩
  | x :: xs, h => by
    obtain ⟨h1, h2, h3⟩ := ints_showable xs fun y hy => h y (List.mem_cons_of_mem _ hy)
    have hx : x.natAbs.log2 < 1920 := by
      have h4 : x.natAbs < 2 ^ 300 := Nat.lt_of_lt_of_le (h x (List.mem_cons_self ..)) (by decide)
      exact Nat.lt_of_lt_of_le (PySem.Flt.log2_lt_of (by decide) h4) (by decide)
    refine ⟨?_, ?_, ?_⟩
    · show (decide (x.natAbs.log2 < 1920) && PyData.showableAll (xs.map PyData.int)) = true
      rw [h1, decide_eq_true hx] <;> rfl
    · show (false || PyData.hasDictAll (xs.map PyData.int)) = false
      rw [h2] <;> rfl
    · show max (PyData.depth (.int x)) (PyData.depthAll (xs.map PyData.int)) ≤ 2
      have : PyData.depth (.int x) ≤ 1 := by first | exact Nat.le_refl _ | exact Nat.zero_le _ | decide
      omega
theorem shows_tuple {xs : List Int} (h : ∀ x ∈ xs, x.natAbs < 10 ^ 70) (hl : xs.length ≤ 10000) : Shows (.tuple (xs.map PyData.int)) := by
  obtain ⟨h1, h2, h3⟩ := ints_showable xs h
  refine ⟨h1, h2, ?_, ?_⟩
  · show PyData.depthAll (xs.map PyData.int) + 1 ≤ 40
    omega
  · show (tupleText (PyData.shownAll (xs.map PyData.int))).length ≤ sizeLine
    have h4 := tupleText_len_le (PyData.shownAll (xs.map PyData.int))
    rw [shownAll_ints] at h4 ⊢
    have h5 := sum_short xs h
    rw [List.length_map] at h4
    rw [sizeLine_eq]
    omega
theorem shows_list {xs : List Int} (h : ∀ x ∈ xs, x.natAbs < 10 ^ 70) (hl : xs.length ≤ 10000) : Shows (.list (xs.map PyData.int)) := by
  obtain ⟨h1, h2, h3⟩ := ints_showable xs h
  refine ⟨h1, h2, ?_, ?_⟩
  · show PyData.depthAll (xs.map PyData.int) + 1 ≤ 40
    omega
  · show (listText (PyData.shownAll (xs.map PyData.int))).length ≤ sizeLine
    have h4 := listText_len_le (PyData.shownAll (xs.map PyData.int))
    rw [shownAll_ints] at h4 ⊢
    have h5 := sum_short xs h
    rw [List.length_map] at h4
    rw [sizeLine_eq]
    omega
theorem dp_ints {K : PySem.W.Frag} {H : Hp} : ∀ xs : List Int, DpAll K H (xs.map V.int) (xs.map PyData.int)
  | [] => .nil
  | x :: xs => .cons (.int x) (dp_ints xs)
/-! ### wraps -/
/-- the first number that does not do -/
def faultL : List (Int × Int) → List Int → Nat → Option Nat
  | q :: qs, n :: ns, i => if q.1 ≤ n ∧ n ≤ q.2 then faultL qs ns (i + 1) else some i
  | _, _, _ => none
def faultV (a : Wr) (ns : List Int) : V := match faultL a.rng ns 0 with
  | some i => .int (i : Nat)
  | none => if a.kind = "coded" ∧ ns.getD 1 0 < ns.getD 0 0 then .int 1 else .non
theorem faultL_drop : ∀ (qs : List (Int × Int)) (ns : List Int) (j i : Nat), qs.length = ns.length → (∀ m q n, m < i → qs[m]? = some q → ns[m]? = some n → q.1 ≤ n ∧ n ≤ q.2) → i ≤ ns.length → faultL qs ns j = faultL (qs.drop i) (ns.drop i) (j + i)
  | _, _, j, 0, _, _, _ => rfl
  | [], [], j, i + 1, _, _, h => by simp at h
  | [], _ :: _, j, i + 1, h, _, _ => by simp at h
  | _ :: _, [], j, i + 1, h, _, _ => by simp at h
  | q :: qs, n :: ns, j, i + 1, hl, hg, hi => by
    have h0 := hg 0 q n (by omega) rfl rfl
    have ih := faultL_drop qs ns (j + 1) i (by simpa using hl) (fun m q' n' hm h1 h2 => hg (m + 1) q' n' (by omega) (by simpa using h1) (by simpa using h2)) (by simpa using hi)
    show (if q.1 ≤ n ∧ n ≤ q.2 then faultL qs ns (j + 1) else some j) = _
    rw [if_pos h0, ih]
    have e : j + 1 + i = j + (i + 1) := by omega
    rw [e]
    rfl
theorem drop_at {α : Type} : ∀ {xs : List α} {i : Nat} {x : α}, xs[i]? = some x → xs.drop i = x :: xs.drop (i + 1)
  | [], i, x, h => by simp at h
  | y :: ys, 0, x, h => by
    simp at h
    rw [h]
    rfl
  | y :: ys, i + 1, x, h => drop_at (xs := ys) (i := i) (by simpa using h)
def spFault (K : PySem.W.Frag) : Sp := fun vs H Q _ => ∃ (a : Wr) (ns : List Int) (p : Addr), vs = [.str a.kind, .ref p] ∧ (SqL K H p (ns.map V.int) ∨ SqT K H p (ns.map V.int)) ∧ ns.length = a.rng.length ∧ ∀ H', Same H H' → Q (faultV a ns) H'
section
variable {P : Program} {w : World} {K : PySem.W.Frag} {mg : Str → Option Value} {base : Heap}
theorem sq_same {H H' : Hp} {p : Addr} {xs : List V} (s : Same H H') (h : SqL K H p xs ∨ SqT K H p xs) : SqL K H' p xs ∨ SqT K H' p xs := by
  rcases h with h | h
  · exact .inl (s.seq h)
  · refine .inr ?_
    rcases h with (h | ⟨o, h⟩) | h
    · exact .inl (.inl (s _ _ h))
    · exact .inl (.inr ⟨o, s _ _ h⟩)
    · exact .inr h
theorem ok_fault_in (T : Tx w K mg) : Prom P w K mg base CX0 3 "fault_in" s_fault_in ["kind", "numbers"] (spFault K) := by
  refine Prom.of T.d_fault_in sc_fault_in (fun vs H Q E h => ?_) (fun _ _ _ _ _ _ us hl => match us, hl with | [_, _], _ => rfl) (fun f cdv A outer s H vs Q E hr h => ?_)
  · obtain ⟨a, ns, p, rfl, _⟩ := h
    rfl
  · obtain ⟨a, ns, p, rfl, hS, hl, k⟩ := h
    obtain ⟨es, en, kd⟩ := T.kd
    obtain ⟨b, xs, hb, hq, hp⟩ := T.rg a
    have hlx := hp.len
    have at_ : ∀ {H' : Hp} {i : Nat} {n : Int} {Q' : VK}, Same H H' → ns[i]? = some n → Q' (.int n) H' → rIxL K (.ref p) (.int (i : Nat)) H' Q' ∨ rIxT K (.ref p) (.int (i : Nat)) H' Q' := fun {H' i n Q'} hs hn hQ => by
      have en : (ns.map V.int)[i]? = some (V.int n) := by rw [List.getElem?_map, hn]; rfl
      rcases sq_same hs hS with z | z
      · exact .inl ⟨p, _, _, _, rfl, rfl, z, atI_nat en, hQ⟩
      · exact .inr ⟨p, _, _, _, rfl, rfl, z, atI_nat en, hQ⟩
    refine ⟨_, (pss_cons (ps_for PassesOwn.never (by rfl) (pi_enumT (by rfl) T.b_enumerate (pa_cons (pe_ix ix_kdict (pe_glob (v := .ref _) (by rfl) T.k_RANGES rfl) (pv 0) (fun _ _ => rfl)) pa_nil)) (pg_tup rfl (pgs_cons (pg_name (i := 2) sc_fault_in.nd rfl (Or.inl rfl)) (pgs_cons (pg_tup rfl (pgs_cons (pg_name (i := 3) sc_fault_in.nd rfl (Or.inl rfl)) (pgs_cons (pg_name (i := 4) sc_fault_in.nd rfl (Or.inl rfl)) pgs_nil))) pgs_nil))) (pss_one (ps_if (pt_not (pt_val (pe_callP (ok_is_between T) (hr.mono (by decide)) (by rfl) pass0 (pa_cons (pe_ix ix_any (pv 1) (pv 2) (fun _ _ => rfl)) (pa_cons (pv 3) (pa_cons (pv 4) pa_nil)))))) (pss_one (ps_ret (pv 2))) pss_nil)))
      (pss_one (ps_ret (pe_ifExp (PW.pt (pw_and (pt_cmpR op_eq (pv 0) pe_str (nomark _)) (pw_and1 (pt_cmp (pc_lt (pe_ix ix_any (pv 1) pe_int (fun _ _ => rfl)) (pe_ix ix_any (pv 1) pe_int (fun _ _ => rfl))))))) pe_int pe_non)))), ?_⟩
    refine ⟨_, rfl, _, _, .ref b, rfl, rfl, ⟨es, en, _, kd.at_, kd.lit, hb, rfl⟩, b, xs, rfl, hq _, ?_⟩
    refine for_it (walk_enumT (K := K) (a := b) (xs := xs)) (fun i σ H' => Same H H' ∧ (∀ m q n, m < i → a.rng[m]? = some q → ns[m]? = some n → q.1 ≤ n ∧ n ≤ q.2) ∧ ∃ v1 v2 v3, σ = [some (.str a.kind), some (.ref p), v1, v2, v3]) ⟨Same.refl H, fun m q n h => absurd h (Nat.not_lt_zero m), none, none, none, rfl⟩ (fun _ _ H' _ _ => hq H') ?_ ?_
    · rintro i x σ H1 H2 hi ⟨hs, hg, v1, v2, v3, rfl⟩ ⟨t, x1, x2, rfl, ht, rfl, e1, e2⟩
      cases e1
      obtain ⟨c, q, rfl, hq2, hc⟩ := hp.get e2
      have hin : i < ns.length := by omega
      obtain ⟨n, hn⟩ : ∃ n, ns[i]? = some n := ⟨_, List.getElem?_eq_getElem hin⟩
      have hs2 : Same H (upd H1 t (.tup [.int (i : Nat), .ref c])) := fun y o e => by rw [upd_ne (ne_of_none (hs _ _ e) ht)]; exact hs _ _ e
      refine ⟨t, _, rfl, SqT.of upd_same, rfl, _, _, rfl, _, _, rfl, ?_⟩
      refine ⟨c, _, rfl, hc _, rfl, _, _, rfl, _, _, rfl, rfl, rfl, ?_⟩
      refine ⟨_, rfl, _, rfl, at_ hs2 hn ⟨_, rfl, _, rfl, n, q.1, q.2, rfl, _, rfl, ifn (fun c => ?_) (fun c => ?_)⟩⟩
      · have e : faultV a ns = .int (i : Nat) := by
          unfold faultV
          rw [faultL_drop a.rng ns 0 i hl.symm hg (by omega)]
          have d1 : a.rng.drop i = q :: a.rng.drop (i + 1) := drop_at hq2
          have d2 : ns.drop i = n :: ns.drop (i + 1) := drop_at hn
          rw [d1, d2]
          show (match (if q.1 ≤ n ∧ n ≤ q.2 then _ else some (0 + i)) with
            | some i => V.int (i : Nat)
            | none => _) = _
          rw [if_neg c, Nat.zero_add]
        have k2 := k _ hs2
        rw [e] at k2
        exact ⟨_, rfl, k2⟩
      · refine ⟨hs2, fun m q' n' hm h1 h2 => ?_, _, _, _, rfl⟩
        by_cases z : m = i
        · subst z
          rw [hq2] at h1
          rw [hn] at h2
          cases h1
          cases h2
          exact c
        · exact hg m q' n' (by omega) h1 h2
    · rintro σ H' ⟨hs, hg, v1, v2, v3, rfl⟩
      have e0 : faultL a.rng ns 0 = none := by
        rw [faultL_drop a.rng ns 0 ns.length hl.symm (by rw [hlx, ← hl] at hg; exact hg) (Nat.le_refl _)]
        rw [List.drop_length]
        cases a.rng.drop ns.length <;> rfl
      have k2 := k _ hs
      unfold faultV at k2
      rw [e0] at k2
      refine ⟨_, rfl, rfl, _, rfl, ifd (fun c => ?_) (fun c => ?_)⟩
      · have ec : a.kind = "coded" := by
          have c : V.str a.kind = V.str "coded" := c
          injection c
        have l2 : a.rng.length = 2 := by
          cases a with
          | coded _ _ => rfl
          | pieces _ _ => rfl
          | cut _ _ => rfl
          | plus _ => exact absurd (show ("plus" : Str) = "coded" from ec) (by decide)
          | told _ => exact absurd (show ("told" : Str) = "coded" from ec) (by decide)
          | whole _ => exact absurd (show ("whole" : Str) = "coded" from ec) (by decide)
          | filled _ => exact absurd (show ("filled" : Str) = "coded" from ec) (by decide)
        rw [l2] at hl
        obtain ⟨n0, n1, rfl⟩ : ∃ n0 n1, ns = [n0, n1] := by
          match ns, hl with
          | [n0, n1], _ => exact ⟨n0, n1, rfl⟩
        refine ⟨_, rfl, at_ (i := 1) (n := n1) hs rfl ⟨_, rfl, at_ (i := 0) (n := n0) hs rfl ⟨_, _, rfl, rfl, _, rfl, ifd (fun c2 => ?_) (fun c2 => ?_)⟩⟩⟩
        · rw [if_pos ⟨ec, c2⟩] at k2
          exact k2
        · rw [if_neg (fun z => c2 z.2)] at k2
          exact k2
      · rw [if_neg (fun z => c (congrArg V.str z.1))] at k2
        exact k2
end
/-- the text of a wrap -/
def Wr.text (a : Wr) : Str := Txt.join " " (a.kind :: a.nums.map fun i => (toString i : Str))
def wrapFs (a : Wr) (p : Addr) : List (Str × V) := [("kind", .str a.kind), ("numbers", .ref p), ("words", .str a.text)]
/-- a wrap stands there -/
def WrapAt (K : PySem.W.Frag) (H : Hp) (q : Addr) (a : Wr) : Prop := ∃ dx p, H q = some (.ins (He.ga K "Wrap") dx (wrapFs a p)) ∧ H p = some (.tup (a.nums.map V.int))
theorem WrapAt.same {K : PySem.W.Frag} {H H' : Hp} {q : Addr} {a : Wr} (h : WrapAt K H q a) (s : Same H H') : WrapAt K H' q a := by
  obtain ⟨dx, p, h1, h2⟩ := h
  exact ⟨dx, p, s _ _ h1, s _ _ h2⟩
def spInit (K : PySem.W.Frag) : Sp := fun vs H Q _ => ∃ (a : Wr) (x p dx : Addr), vs = [.ref x, .str a.kind, .ref p] ∧ a.ok ∧ H x = some (.ins (He.ga K "Wrap") dx []) ∧ H p = some (.tup (a.nums.map V.int)) ∧
  ∀ H', Kp x H H' → H' x = some (.ins (He.ga K "Wrap") dx (wrapFs a p)) → Q .non H'
def spWrap (K : PySem.W.Frag) : Sp := fun vs H Q _ => ∃ a : Wr, vs = .str a.kind :: a.nums.map V.int ∧ a.ok ∧ ∀ q H', H q = none → Same H H' → WrapAt K H' q a → Q (.ref q) H'
theorem kind_len (a : Wr) : a.kind.length ≤ 6 := by
  cases a with
  | plus _ => exact (show ("plus" : Str).length ≤ 6 by decide)
  | told _ => exact (show ("told" : Str).length ≤ 6 by decide)
  | whole _ => exact (show ("whole" : Str).length ≤ 6 by decide)
  | pieces _ _ => exact (show ("pieces" : Str).length ≤ 6 by decide)
  | cut _ _ => exact (show ("cut" : Str).length ≤ 6 by decide)
  | coded _ _ => exact (show ("coded" : Str).length ≤ 6 by decide)
  | filled _ => exact (show ("filled" : Str).length ≤ 6 by decide)
theorem faultL_one {q : Int × Int} {n : Int} (h : q.1 ≤ n ∧ n ≤ q.2) : faultL [q] [n] 0 = none := by
  show (if q.1 ≤ n ∧ n ≤ q.2 then none else some 0) = none
  rw [if_pos h]
theorem faultL_two {q r : Int × Int} {n m : Int} (h : q.1 ≤ n ∧ n ≤ q.2) (h2 : r.1 ≤ m ∧ m ≤ r.2) : faultL [q, r] [n, m] 0 = none := by
  show (if q.1 ≤ n ∧ n ≤ q.2 then (if r.1 ≤ m ∧ m ≤ r.2 then none else some 1) else some 0) = none
  rw [if_pos h, if_pos h2]
theorem fault_ok {a : Wr} (h : a.ok) : faultV a a.nums = .non := by
  unfold faultV
  cases a with
  | plus c => rw [show faultL (Wr.plus c).rng (Wr.plus c).nums 0 = none from faultL_one h]; rfl
  | told c => rw [show faultL (Wr.told c).rng (Wr.told c).nums 0 = none from faultL_one h]; rfl
  | whole c => rw [show faultL (Wr.whole c).rng (Wr.whole c).nums 0 = none from faultL_one h]; rfl
  | filled c => rw [show faultL (Wr.filled c).rng (Wr.filled c).nums 0 = none from faultL_one h]; rfl
  | pieces m c => rw [show faultL (Wr.pieces m c).rng (Wr.pieces m c).nums 0 = none from faultL_two ⟨h.1, h.2.1⟩ h.2.2]; rfl
  | cut m c => rw [show faultL (Wr.cut m c).rng (Wr.cut m c).nums 0 = none from faultL_two ⟨h.1, h.2.1⟩ h.2.2]; rfl
  | coded m c =>
    simp only [Wr.ok] at h
    rw [show faultL (Wr.coded m c).rng (Wr.coded m c).nums 0 = none from faultL_two ⟨h.1, h.2.1⟩ ⟨show (1 : Int) ≤ c by omega, h.2.2.2⟩]
    exact if_neg (fun z => absurd (show c < m from z.2) (by omega))
section
variable {P : Program} {w : World} {K : PySem.W.Frag} {mg : Str → Option Value} {base : Heap}
theorem ok_Wrap (T : Tx w K mg) : PromC P w K mg base CX0 4 "Wrap" (spWrap K) := by
  refine PromC.star (sp0 := spInit K) T.mk_Wrap T.k_Wrap T.dm_Wrap___init__ sc_Wrap___init__ (fun _ _ _ _ _ _ _ _ => rfl) (fun _ _ _ _ _ _ _ _ _ _ => rfl) (fun f cdv A outer s H vs Q E hr h => ?_) (fun vs H Q E h => ?_)
  · obtain ⟨a, x, p, dx, rfl, ha, hx, hp, k⟩ := h
    obtain ⟨es, en, kd⟩ := T.kd
    obtain ⟨b, xs, hb, hq, hps⟩ := T.rg a
    refine ⟨_, (pss_cons (ps_if (PW.pt (pw_or (pt_not (pt_val (pe_callB call_isi (by rfl) T.b_isinstance (by decide +kernel) (pa_cons (pv 1) (pa_cons (pe_bltn (v := .ty "str") (by rfl) T.b_str (by decide +kernel) rfl) pa_nil))))) (pw_or1 (pt_cmpR (op_notIn_kd kd) (pv 1) (pe_glob (v := .ref _) (by rfl) T.k_RANGES rfl) (by rfl))))) (pss_one ps_never) pss_nil)
      (pss_cons (ps_if (pt_cmp (pc_neI (pe_callB call_len_seq (by rfl) T.b_len (by decide +kernel) (pa_cons (pv 2) pa_nil)) (pe_callB call_len_seq (by rfl) T.b_len (by decide +kernel) (pa_cons (pe_ix ix_kdict (pe_glob (v := .ref _) (by rfl) T.k_RANGES rfl) (pv 1) (fun _ _ => rfl)) pa_nil)))) (pss_one ps_never) pss_nil)
      (pss_cons (ps_set (i := 3) sc_Wrap___init__.nd rfl (Or.inl rfl) (pe_callP (ok_fault_in T) (hr.mono (by decide)) (by rfl) pass0 (pa_cons (pv 1) (pa_cons (pv 2) pa_nil))))
      (pss_cons (ps_if (pt_cmpR op_notN (pv 3) pe_non (nomark _)) (pss_one ps_never) pss_nil)
      (pss_cons (ps_fld (pv 0) (pv 1) rfl)
      (pss_cons (ps_fld (pv 0) (pv 2) rfl)
      (pss_one (ps_fld (pv 0) (pe_join pe_str (pe_lst (pa_cons (pv 1) (StX.pa_star (pe_lc (own := [("number", 4)]) (g := (gName 4)) (tt := tYes) (by rfl) sc_Wrap___init__.nd (pi_tup (pv 2)) (blkOk_by (own := [("number", 4)]) (N := ["self", "kind", "numbers", "fault", "number"]) (sc := defScope s_Wrap___init__) (by decide +kernel)) (fun _ _ _ _ _ => (pg_name (i := 4) sc_Wrap___init__.nd rfl (Or.inl rfl))) (fun _ _ _ _ _ => pts_nil) (fun _ _ _ _ _ => (pe_joined1 (pe_fmt (pv 4))))) pa_nil)))) rfl)))))))), ?_⟩
    refine ⟨_, rfl, _, _, _, _, true, rfl, .ty _, .base (.str _), kit_ty (by decide +kernel), true, rfl, iteF ?_⟩
    refine ⟨_, rfl, _, _, rfl, rfl, hb, _, rfl, iteF ?_⟩
    refine ⟨_, rfl, p, _, rfl, .inr (SqT.of hp), _, rfl, _, _, .ref b, rfl, rfl, ⟨es, en, _, kd.at_, kd.lit, hb, rfl⟩, b, xs, rfl, .inr (hq _), _, _, rfl, rfl, _, rfl, ifn (fun c => ?_) (fun _ => ?_)⟩
    · refine absurd ?_ c
      rw [List.length_map, hps.len, nums_len]
      first | done | rfl
    refine ⟨_, rfl, _, rfl, a, a.nums, p, rfl, .inr (SqT.of hp), nums_len, fun H1 s1 => ?_⟩
    rw [fault_ok ha]
    refine ⟨_, rfl, rfl, _, rfl, iteF ?_⟩
    refine ⟨_, rfl, _, rfl, x, _, dx, _, rfl, s1 _ _ hx, T.cl_Wrap, T.na_Wrap_kind, by decide, ?_⟩
    refine ⟨_, rfl, _, rfl, x, _, dx, _, rfl, upd_same, T.cl_Wrap, T.na_Wrap_numbers, (show (1 : Nat) < 1000 by decide), ?_⟩
    obtain ⟨H3, e3, hx3, kp3⟩ : ∃ H3, upd (upd H1 x (.ins (He.ga K "Wrap") dx (putF "kind" (.str a.kind) []))) x (.ins (He.ga K "Wrap") dx (putF "numbers" (.ref p) (putF "kind" (.str a.kind) []))) = H3 ∧ H3 x = some (.ins (He.ga K "Wrap") dx [("kind", .str a.kind), ("numbers", .ref p)]) ∧ Kp x H H3 :=
      ⟨_, rfl, upd_same, Kp.set (Kp.set fun b o n e => s1 _ _ e)⟩
    rw [e3]
    have npx : p ≠ x := fun z => by
      rw [z, hx] at hp
      cases hp
    have hp3 : H3 p = some (.tup (a.nums.map V.int)) := kp3 _ _ npx hp
    refine ⟨⟨_, rfl⟩, _, rfl, _, rfl, p, rfl, ⟨_, SqT.of hp3⟩, fun D hD => ?_⟩
    refine lc_tup (K := K) (a := p) (xs := a.nums.map V.int) (Pv := fun i H' => Same H3 H' ∧ H' D = some (.lst ((a.nums.take i).map fun z => V.str (toString z)))) ⟨fun z o e => by rw [upd_ne (ne_of_none e hD)]; exact e, upd_same⟩ (fun i H' _ h => SqT.of (h.1 _ _ hp3)) ?_ ?_
    · rintro i y H' hi ⟨hs, hl⟩
      obtain ⟨n, hn, rfl⟩ : ∃ n, a.nums[i]? = some n ∧ y = V.int n := by
        rw [List.getElem?_map] at hi
        cases e : a.nums[i]? with
        | none =>
          rw [e] at hi
          cases hi
        | some n =>
          rw [e] at hi
          exact ⟨n, rfl, (Option.some.inj hi).symm⟩
      have hb := nums_small ha n (List.mem_of_getElem? hn)
      have hlen : a.nums.length ≤ 2 := by cases a <;> simp [Wr.nums]
      have hil : i < a.nums.length := by
        rcases List.getElem?_eq_some_iff.mp hn with ⟨z, _⟩
        exact z
      refine ⟨rfl, _, rfl, .inr ⟨n, rfl, log2_small hb.1 (by omega), _, hl, ?_, fun z o e => ?_, ?_⟩⟩
      · rw [List.length_map, List.length_take, sizeLine_eq]
        omega
      · rw [upd_ne (ne_of_none e hD)]
        exact hs _ _ e
      · rw [upd_same, List.take_succ, hn, List.map_append]
        rfl
    · rintro H' ⟨hs, hl⟩
      rw [List.length_map, List.take_length] at hl
      refine ⟨D, _, rfl, .inr (SqL.of hl), ?_, fun l hl2 => ?_⟩
      · have hlen : a.nums.length ≤ 2 := by cases a <;> simp [Wr.nums]
        simp
        rw [sizeLine_eq]
        omega
      have el : V.str a.kind :: (a.nums.map (fun z => V.str (toString z)) ++ []) = (a.kind :: a.nums.map fun z => (toString z : Str)).map V.str := by simp
      refine ⟨_, l, a.kind :: a.nums.map (fun z => (toString z : Str)), rfl, rfl, .inl (SqL.of (by rw [← el]; exact upd_same)), ?_, ?_⟩
      · have h1 := sum_short a.nums (fun z hz => by have := nums_small ha z hz; omega)
        have hlen : a.nums.length ≤ 2 := by cases a <;> simp [Wr.nums]
        have hk : a.kind.length ≤ 6 := kind_len a
        simp only [List.map_cons, List.sum_cons, List.length_cons, List.length_map]
        have h2 : (" " : Str).length = 1 := by decide
        rw [h2]
        omega
      · have hx5 : (upd H' l (.lst (V.str a.kind :: (a.nums.map (fun z => V.str (toString z)) ++ [])))) x = some (.ins (He.ga K "Wrap") dx [("kind", .str a.kind), ("numbers", .ref p)]) := by rw [upd_ne (ne_of_none (hs _ _ hx3) hl2)]; exact hs _ _ hx3
        refine ⟨_, rfl, x, _, dx, _, rfl, hx5, T.cl_Wrap, T.na_Wrap_words, (show (2 : Nat) < 1000 by decide), ?_⟩
        refine k _ (fun z o n e => ?_) upd_same
        have ez := hs _ _ (kp3 z o n e)
        rw [upd_ne n, upd_ne (ne_of_none ez hl2)]
        exact ez
  · obtain ⟨a, rfl, ha, k⟩ := h
    refine ⟨_, _, rfl, ?_, fun x dx p hx hdx nd np npd hp => ?_⟩
    · rw [List.length_map, sizeLine_eq]
      have hlen : a.nums.length ≤ 2 := by cases a <;> simp [Wr.nums]
      omega
    refine ⟨a, x, p, dx, rfl, ha, by rw [upd_ne (Ne.symm np)]; exact upd_same, upd_same, fun H' kp hx' => ⟨rfl, ?_⟩⟩
    refine k x H' hx (fun z o e => ?_) ⟨dx, p, hx', kp _ _ np upd_same⟩
    have n1 : z ≠ x := ne_of_none e hx
    refine kp _ _ n1 ?_
    rw [upd_ne (ne_of_none e hp), upd_ne n1, upd_ne (ne_of_none e hdx)]
    exact e
end
/-! ### sizes by wraps -/
def spBegun : Sp := fun vs H Q _ => ∃ n m : Int, vs = [.int n, .int m] ∧ 1 ≤ m ∧ m ≤ 1000 ∧ Q (.int (beg n m)) H
def spPieces : Sp := fun vs H Q _ => ∃ n m c b : Int, vs = [.int n, .int m, .int c, .int b] ∧ 0 ≤ n ∧ 1 ≤ m ∧ m ≤ 60 ∧ 0 ≤ c ∧ c ≤ 60 ∧ 2 ≤ b ∧ b ≤ 256 ∧ Q (.int ((Wr.pieces m c).gr b n)) H
def spGrown (K : PySem.W.Frag) : Sp := fun vs H Q _ => ∃ (a : Wr) (q : Addr) (n b : Int), vs = [.ref q, .int n, .int b] ∧ WrapAt K H q a ∧ a.ok ∧ 2 ≤ b ∧ b ≤ 256 ∧ 0 ≤ n ∧ n < 2 ^ 3000 ∧ Q (.int (a.gr b n)) H
def spSize (K : PySem.W.Frag) : Sp := fun vs H Q _ => ∃ (a : Wr) (q : Addr) (n b : Int), vs = [.ref q, .int n, .int b] ∧ WrapAt K H q a ∧ a.ok ∧ 2 ≤ b ∧ b ≤ 256 ∧ 0 ≤ n ∧ n ≤ 10 ^ 60 - 1 ∧ Q (.int (a.gr b n)) H
theorem ifs_neg {x y : Str} {A B : Prop} (h : x ≠ y) (hB : B) : if decide (V.str x = V.str y) = true then A else B := by
  rw [decide_eq_false (fun z => h (by injection z)), if_neg Bool.false_ne_true]
  exact hB
theorem nums_first {a : Wr} : ∃ m, (a.nums.map V.int)[0]? = some (.int m) ∧ ∃ l, atI (a.nums.map V.int) (-1) = some (.int l) := by
  cases a <;> exact ⟨_, rfl, _, rfl⟩
section
variable {P : Program} {w : World} {K : PySem.W.Frag} {mg : Str → Option Value} {base : Heap}
theorem ok_begun (T : Tx w K mg) : Prom P w K mg base CX0 1 "begun" s_begun ["length", "whole"] spBegun := by
  refine Prom.of T.d_begun sc_begun (fun vs H Q E h => ?_) (fun _ _ _ _ _ _ us hl => match us, hl with | [_, _], _ => rfl) (fun f cdv A outer s H vs Q E hr h => ?_)
  · obtain ⟨n, m, rfl, _⟩ := h
    rfl
  · obtain ⟨n, m, rfl, h0, h1, k⟩ := h
    refine ⟨_, (pss_one (ps_ret (pe_op op_fdiv (pe_op op_sub (pe_op op_add (pv 0) (pv 1)) pe_int) (pv 1)))), ?_⟩
    exact ⟨_, rfl, _, rfl, _, _, rfl, rfl, _, _, rfl, rfl, _, rfl, _, _, rfl, rfl, ⟨by omega, by omega⟩, k⟩
theorem ok_in_pieces (T : Tx w K mg) : Prom P w K mg base CX0 2 "in_pieces" s_in_pieces ["length", "most", "constant", "base"] spPieces := by
  refine Prom.of T.d_in_pieces sc_in_pieces (fun vs H Q E h => ?_) (fun _ _ _ _ _ _ us hl => match us, hl with | [_, _, _, _], _ => rfl) (fun f cdv A outer s H vs Q E hr h => ?_)
  · obtain ⟨n, m, c, b, rfl, _⟩ := h
    rfl
  · obtain ⟨n, m, c, b, rfl, n0, m0, m1, c0, c1, b0, b1, k⟩ := h
    have f1 := fig_small (b := b) (m := m) b0 m1
    have f2 := figF_pos (b := b) (n := m) b0
    have r0 := Int.emod_nonneg n (show m ≠ 0 by omega)
    have r1 := Int.emod_lt_of_pos n (show 0 < m by omega)
    have big : ∀ x : Int, x ≤ 60 → x < 2 ^ 4000 := fun x hx => Int.lt_of_le_of_lt hx (by decide)
    refine ⟨_, (pss_cons (ps_set (i := 4) sc_in_pieces.nd rfl (Or.inl rfl) (pe_op op_mul (pe_op op_fdiv (pv 0) (pv 1)) (pe_op op_add (pe_op op_add (pv 1) (pv 2)) (pe_callP (ok_figures_of T) (hr.mono (by decide)) (by rfl) pass0 (pa_cons (pv 1) (pa_cons (pv 3) pa_nil))))))
      (pss_cons (ps_set (i := 5) sc_in_pieces.nd rfl (Or.inl rfl) (pe_op op_mod (pe_callTy call_int1 (by rfl) T.b_int (by decide +kernel) (pa_cons (pv 0) pa_nil)) (pv 1)))
      (pss_cons (ps_if (pt_cmp (pc_gt (pv 5) pe_int)) (pss_one (ps_set (i := 4) sc_in_pieces.nd rfl (Or.inl rfl) (pe_op op_add (pe_op op_add (pe_op op_add (pv 4) (pv 5)) (pv 2)) (pe_callP (ok_figures_of T) (hr.mono (by decide)) (by rfl) pass0 (pa_cons (pv 5) (pa_cons (pv 3) pa_nil)))))) pss_nil)
      (pss_one (ps_ret (pe_op op_add (pe_op op_add (pv 4) (pv 2)) pe_int)))))), ?_⟩
    refine ⟨_, rfl, _, rfl, _, _, rfl, rfl, ⟨by omega, by omega⟩, _, rfl, _, rfl, _, _, rfl, rfl, _, rfl, _, rfl, m, b, rfl, b0, b1, big m m1, fun g hg => ?_⟩
    have eg := figF_eq b0 hg
    subst eg
    refine ⟨_, _, rfl, rfl, _, _, rfl, rfl, .inr ⟨by omega, by omega⟩, ?_⟩
    refine ⟨_, rfl, .inl ⟨_, rfl, _, rfl, _, _, rfl, rfl, (show 0 < m by omega), ?_⟩⟩
    simp only [Wr.gr] at k
    refine ⟨_, rfl, _, _, rfl, rfl, _, rfl, ifd (fun h1 => ?_) (fun h1 => ?_)⟩
    · have h1 : 0 < n % m := h1
      rw [if_pos h1] at k
      refine ⟨_, rfl, _, rfl, _, _, rfl, rfl, _, rfl, _, _, rfl, rfl, _, rfl, _, rfl, n % m, b, rfl, b0, b1, big _ (by omega), fun g hg => ?_⟩
      have eg := figF_eq b0 hg
      subst eg
      refine ⟨_, _, rfl, rfl, ?_⟩
      refine ⟨_, rfl, _, rfl, _, _, rfl, rfl, _, _, rfl, rfl, ?_⟩
      have e : n / m * (m + c + figF b m) + n % m + c + figF b (n % m) + c + 1 = n / m * (m + c + figF b m) + (n % m + c + figF b (n % m)) + c + 1 := by omega
      rw [← e] at k
      exact k
    · have h1 : ¬ 0 < n % m := h1
      rw [if_neg h1] at k
      refine ⟨_, rfl, _, rfl, _, _, rfl, rfl, _, _, rfl, rfl, ?_⟩
      have e : n / m * (m + c + figF b m) + 0 + c + 1 = n / m * (m + c + figF b m) + c + 1 := by omega
      rw [e] at k
      exact k
theorem ok_Wrap_grown (T : Tx w K mg) : PromM P w K mg base CX0 3 "Wrap" "grown" ["self", "length", "base"] (spGrown K) := by
  refine PromM.of T.cl_Wrap T.me_Wrap_grown T.dm_Wrap_grown sc_Wrap_grown (fun vs H Q E h => ?_) (fun _ _ _ _ _ _ us hl => match us, hl with | [_, _, _], _ => rfl) (fun f cdv A outer s H vs Q E hr h => ?_)
  · obtain ⟨a, q, n, b, rfl, _⟩ := h
    rfl
  · obtain ⟨a, q, n, b, rfl, ⟨dx, p, hq, hp⟩, ha, b0, b1, n0, n1, k⟩ := h
    obtain ⟨x1, hm, x2, hl⟩ := nums_first (a := a)
    refine ⟨_, (pss_cons (ps_par (i := 3) (j := 4) (by rfl) sc_Wrap_grown.nd rfl rfl (by decide) rfl rfl (pa_cons (pe_ix ix_tup (pe_fld (pv 0) rfl) pe_int (fun _ _ => rfl)) (pa_cons (pe_ix ix_tup (pe_fld (pv 0) rfl) (pe_un un_neg pe_int) (fun _ _ => rfl)) pa_nil)) (by rfl))
      (pss_cons (ps_if (pt_cmpR op_eq (pe_fld (pv 0) rfl) pe_str (nomark _)) (pss_one (ps_ret (pe_op op_add (pv 1) (pv 3)))) pss_nil)
      (pss_cons (ps_if (pt_cmpR op_eq (pe_fld (pv 0) rfl) pe_str (nomark _)) (pss_one (ps_ret (pe_op op_add (pe_op op_add (pv 1) (pv 3)) (pe_callP (ok_figures_of T) (hr.mono (by decide)) (by rfl) pass0 (pa_cons (pv 1) (pa_cons (pv 2) pa_nil)))))) pss_nil)
      (pss_cons (ps_if (pt_cmpR op_eq (pe_fld (pv 0) rfl) pe_str (nomark _)) (pss_one (ps_ret (pe_callP (ok_total_of T) (hr.mono (by decide)) (by rfl) pass0 (pa_cons (pe_op op_add (pv 1) (pv 3)) (pa_cons (pv 2) pa_nil))))) pss_nil)
      (pss_cons (ps_if (pt_cmpR op_eq (pe_fld (pv 0) rfl) pe_str (nomark _)) (pss_one (ps_ret (pe_op op_mul (pe_callP (ok_begun T) (hr.mono (by decide)) (by rfl) pass0 (pa_cons (pv 1) (pa_cons (pv 3) pa_nil))) (pv 4)))) pss_nil)
      (pss_cons (ps_if (pt_cmpR op_eq (pe_fld (pv 0) rfl) pe_str (nomark _)) (pss_one (ps_ret (pe_op op_mul (pe_callP (ok_begun T) (hr.mono (by decide)) (by rfl) pass0 (pa_cons (pv 1) (pa_cons (pv 3) pa_nil))) (pv 3)))) pss_nil)
      (pss_cons (ps_if (pt_cmpR op_eq (pe_fld (pv 0) rfl) pe_str (nomark _)) (pss_one (ps_ret (pe_op op_add (pv 1) (pe_op op_mul (pe_callP (ok_begun T) (hr.mono (by decide)) (by rfl) pass0 (pa_cons (pv 1) (pa_cons (pv 3) pa_nil))) (pv 4))))) pss_nil)
      (pss_one (ps_ret (pe_callP (ok_in_pieces T) (hr.mono (by decide)) (by rfl) pass0 (pa_cons (pv 1) (pa_cons (pv 3) (pa_cons (pv 4) (pa_cons (pv 2) pa_nil)))))))))))))), ?_⟩
    refine ⟨_, rfl, q, _, dx, _, _, rfl, hq, T.cl_Wrap, T.na_Wrap_numbers, rfl, p, _, _, _, rfl, rfl, SqT.of hp, atI_nat (j := 0) hm, ?_⟩
    have big : ∀ x : Int, x ≤ n → x < 2 ^ 4000 := fun x hx => Int.lt_of_lt_of_le (show x < 2 ^ 3000 by omega) (by decide)
    refine ⟨_, rfl, q, _, dx, _, _, rfl, hq, T.cl_Wrap, T.na_Wrap_numbers, rfl, _, rfl, p, _, _, _, rfl, rfl, SqT.of hp, hl, _, _, rfl, ?_⟩
    cases a with
    | plus c =>
      have e1 : c = x1 := by injection hm with z; injection z
      have e2 : c = x2 := by injection hl with z; injection z
      subst e1 e2
      simp only [Wr.ok] at ha
      refine ⟨_, rfl, q, _, dx, _, _, rfl, hq, T.cl_Wrap, T.na_Wrap_kind, rfl, rfl, _, rfl, ifd_pos rfl ?_⟩
      exact ⟨_, rfl, _, rfl, _, _, rfl, rfl, k⟩
    | told c =>
      have e1 : c = x1 := by injection hm with z; injection z
      have e2 : c = x2 := by injection hl with z; injection z
      subst e1 e2
      simp only [Wr.ok] at ha
      refine ⟨_, rfl, q, _, dx, _, _, rfl, hq, T.cl_Wrap, T.na_Wrap_kind, rfl, rfl, _, rfl, ifs_neg (show ("told" : Str) ≠ "plus" by decide) ?_⟩
      refine ⟨_, rfl, q, _, dx, _, _, rfl, hq, T.cl_Wrap, T.na_Wrap_kind, rfl, rfl, _, rfl, ifd_pos rfl ?_⟩
      refine ⟨_, rfl, _, rfl, _, _, rfl, rfl, _, rfl, _, rfl, n, b, rfl, b0, b1, big n (by omega), fun g hg => ?_⟩
      have eg := figF_eq b0 hg
      subst eg
      exact ⟨_, _, rfl, rfl, k⟩
    | whole c =>
      have e1 : c = x1 := by injection hm with z; injection z
      have e2 : c = x2 := by injection hl with z; injection z
      subst e1 e2
      simp only [Wr.ok] at ha
      refine ⟨_, rfl, q, _, dx, _, _, rfl, hq, T.cl_Wrap, T.na_Wrap_kind, rfl, rfl, _, rfl, ifs_neg (show ("whole" : Str) ≠ "plus" by decide) ?_⟩
      refine ⟨_, rfl, q, _, dx, _, _, rfl, hq, T.cl_Wrap, T.na_Wrap_kind, rfl, rfl, _, rfl, ifs_neg (show ("whole" : Str) ≠ "told" by decide) ?_⟩
      refine ⟨_, rfl, q, _, dx, _, _, rfl, hq, T.cl_Wrap, T.na_Wrap_kind, rfl, rfl, _, rfl, ifd_pos rfl ?_⟩
      refine ⟨_, rfl, _, rfl, _, _, rfl, rfl, _, rfl, n + c, b, rfl, b0, b1, by omega, Int.lt_of_lt_of_le (show n + c < 2 ^ 3000 + 1001 by omega) (by decide), fun s hs _ => ?_⟩
      have eg := totF_eq b0 (show 0 ≤ n + c by omega) hs
      subst eg
      exact k
    | pieces m c =>
      have e1 : m = x1 := by injection hm with z; injection z
      have e2 : c = x2 := by injection hl with z; injection z
      subst e1 e2
      simp only [Wr.ok] at ha
      refine ⟨_, rfl, q, _, dx, _, _, rfl, hq, T.cl_Wrap, T.na_Wrap_kind, rfl, rfl, _, rfl, ifs_neg (show ("pieces" : Str) ≠ "plus" by decide) ?_⟩
      refine ⟨_, rfl, q, _, dx, _, _, rfl, hq, T.cl_Wrap, T.na_Wrap_kind, rfl, rfl, _, rfl, ifs_neg (show ("pieces" : Str) ≠ "told" by decide) ?_⟩
      refine ⟨_, rfl, q, _, dx, _, _, rfl, hq, T.cl_Wrap, T.na_Wrap_kind, rfl, rfl, _, rfl, ifs_neg (show ("pieces" : Str) ≠ "whole" by decide) ?_⟩
      refine ⟨_, rfl, q, _, dx, _, _, rfl, hq, T.cl_Wrap, T.na_Wrap_kind, rfl, rfl, _, rfl, ifs_neg (show ("pieces" : Str) ≠ "coded" by decide) ?_⟩
      refine ⟨_, rfl, q, _, dx, _, _, rfl, hq, T.cl_Wrap, T.na_Wrap_kind, rfl, rfl, _, rfl, ifs_neg (show ("pieces" : Str) ≠ "filled" by decide) ?_⟩
      refine ⟨_, rfl, q, _, dx, _, _, rfl, hq, T.cl_Wrap, T.na_Wrap_kind, rfl, rfl, _, rfl, ifs_neg (show ("pieces" : Str) ≠ "cut" by decide) ?_⟩
      exact ⟨_, rfl, _, rfl, _, rfl, _, rfl, n, m, c, b, rfl, n0, by omega, by omega, by omega, by omega, b0, b1, k⟩
    | cut m c =>
      have e1 : m = x1 := by injection hm with z; injection z
      have e2 : c = x2 := by injection hl with z; injection z
      subst e1 e2
      simp only [Wr.ok] at ha
      refine ⟨_, rfl, q, _, dx, _, _, rfl, hq, T.cl_Wrap, T.na_Wrap_kind, rfl, rfl, _, rfl, ifs_neg (show ("cut" : Str) ≠ "plus" by decide) ?_⟩
      refine ⟨_, rfl, q, _, dx, _, _, rfl, hq, T.cl_Wrap, T.na_Wrap_kind, rfl, rfl, _, rfl, ifs_neg (show ("cut" : Str) ≠ "told" by decide) ?_⟩
      refine ⟨_, rfl, q, _, dx, _, _, rfl, hq, T.cl_Wrap, T.na_Wrap_kind, rfl, rfl, _, rfl, ifs_neg (show ("cut" : Str) ≠ "whole" by decide) ?_⟩
      refine ⟨_, rfl, q, _, dx, _, _, rfl, hq, T.cl_Wrap, T.na_Wrap_kind, rfl, rfl, _, rfl, ifs_neg (show ("cut" : Str) ≠ "coded" by decide) ?_⟩
      refine ⟨_, rfl, q, _, dx, _, _, rfl, hq, T.cl_Wrap, T.na_Wrap_kind, rfl, rfl, _, rfl, ifs_neg (show ("cut" : Str) ≠ "filled" by decide) ?_⟩
      refine ⟨_, rfl, q, _, dx, _, _, rfl, hq, T.cl_Wrap, T.na_Wrap_kind, rfl, rfl, _, rfl, ifd_pos rfl ?_⟩
      exact ⟨_, rfl, _, rfl, _, rfl, n, m, rfl, by omega, by omega, _, rfl, _, _, rfl, rfl, .inr ⟨by omega, by omega⟩, _, _, rfl, rfl, k⟩
    | coded m c =>
      have e1 : m = x1 := by injection hm with z; injection z
      have e2 : c = x2 := by injection hl with z; injection z
      subst e1 e2
      simp only [Wr.ok] at ha
      refine ⟨_, rfl, q, _, dx, _, _, rfl, hq, T.cl_Wrap, T.na_Wrap_kind, rfl, rfl, _, rfl, ifs_neg (show ("coded" : Str) ≠ "plus" by decide) ?_⟩
      refine ⟨_, rfl, q, _, dx, _, _, rfl, hq, T.cl_Wrap, T.na_Wrap_kind, rfl, rfl, _, rfl, ifs_neg (show ("coded" : Str) ≠ "told" by decide) ?_⟩
      refine ⟨_, rfl, q, _, dx, _, _, rfl, hq, T.cl_Wrap, T.na_Wrap_kind, rfl, rfl, _, rfl, ifs_neg (show ("coded" : Str) ≠ "whole" by decide) ?_⟩
      refine ⟨_, rfl, q, _, dx, _, _, rfl, hq, T.cl_Wrap, T.na_Wrap_kind, rfl, rfl, _, rfl, ifd_pos rfl ?_⟩
      exact ⟨_, rfl, _, rfl, n, m, rfl, by omega, by omega, _, rfl, _, _, rfl, rfl, .inr ⟨by omega, by omega⟩, k⟩
    | filled m =>
      have e1 : m = x1 := by injection hm with z; injection z
      have e2 : m = x2 := by injection hl with z; injection z
      subst e1 e2
      simp only [Wr.ok] at ha
      refine ⟨_, rfl, q, _, dx, _, _, rfl, hq, T.cl_Wrap, T.na_Wrap_kind, rfl, rfl, _, rfl, ifs_neg (show ("filled" : Str) ≠ "plus" by decide) ?_⟩
      refine ⟨_, rfl, q, _, dx, _, _, rfl, hq, T.cl_Wrap, T.na_Wrap_kind, rfl, rfl, _, rfl, ifs_neg (show ("filled" : Str) ≠ "told" by decide) ?_⟩
      refine ⟨_, rfl, q, _, dx, _, _, rfl, hq, T.cl_Wrap, T.na_Wrap_kind, rfl, rfl, _, rfl, ifs_neg (show ("filled" : Str) ≠ "whole" by decide) ?_⟩
      refine ⟨_, rfl, q, _, dx, _, _, rfl, hq, T.cl_Wrap, T.na_Wrap_kind, rfl, rfl, _, rfl, ifs_neg (show ("filled" : Str) ≠ "coded" by decide) ?_⟩
      refine ⟨_, rfl, q, _, dx, _, _, rfl, hq, T.cl_Wrap, T.na_Wrap_kind, rfl, rfl, _, rfl, ifd_pos rfl ?_⟩
      exact ⟨_, rfl, _, rfl, n, m, rfl, by omega, by omega, _, rfl, _, _, rfl, rfl, .inr ⟨by omega, by omega⟩, k⟩
end
/-! ### stacks -/
def stepF (p : Int) : Wr → Int
  | .coded m c => p * m * c
  | .pieces m _ => p * m
  | .cut m _ => p * m
  | .filled m => p * m
  | _ => p
def fineL (ws : List Wr) : Int := ws.foldl stepF 1
inductive WrapsAt (K : PySem.W.Frag) (H : Hp) : List V → List Wr → Prop where
  | nil : WrapsAt K H [] []
  | cons {a : Addr} {x : Wr} {xs : List V} {ws : List Wr} (h : WrapAt K H a x) (r : WrapsAt K H xs ws) : WrapsAt K H (.ref a :: xs) (x :: ws)
theorem WrapsAt.len {K : PySem.W.Frag} {H : Hp} {xs : List V} {ws : List Wr} (h : WrapsAt K H xs ws) : xs.length = ws.length := by
  induction h with
  | nil => rfl
  | cons _ _ ih => exact congrArg (· + 1) ih
theorem WrapsAt.get {K : PySem.W.Frag} {H : Hp} {xs : List V} {ws : List Wr} (h : WrapsAt K H xs ws) : ∀ {i : Nat} {x : V}, xs[i]? = some x → ∃ (a : Addr) (y : Wr), x = .ref a ∧ ws[i]? = some y ∧ WrapAt K H a y := by
  induction h with
  | nil =>
    intro i x e
    simp at e
  | cons h _ ih =>
    intro i x e
    cases i with
    | zero =>
      simp at e
      exact ⟨_, _, e.symm, rfl, h⟩
    | succ i => exact ih (by simpa using e)
theorem WrapsAt.same {K : PySem.W.Frag} {H H' : Hp} {xs : List V} {ws : List Wr} (h : WrapsAt K H xs ws) (s : Same H H') : WrapsAt K H' xs ws := by
  induction h with
  | nil => exact .nil
  | cons h _ ih => exact .cons (h.same s) ih
theorem WrapsAt.snoc {K : PySem.W.Frag} {H : Hp} {xs : List V} {ws : List Wr} {a : Addr} {x : Wr} (h : WrapsAt K H xs ws) (hx : WrapAt K H a x) : WrapsAt K H (xs ++ [.ref a]) (ws ++ [x]) := by
  induction h with
  | nil => exact .cons hx .nil
  | cons h _ ih => exact .cons h ih
def stkFs (b : Int) (t : Addr) (ws : List Wr) : List (Str × V) := [("base", .int b), ("wraps", .ref t), ("fineness", .int (fineL ws))]
structure StkOk (b : Int) (ws : List Wr) : Prop where
  b0 : 2 ≤ b
  b1 : b ≤ 256
  ok : ∀ a ∈ ws, a.ok
  len : ws.length ≤ 6
  fine : fineL ws ≤ 120
/-- a stack stands there -/
def StkAt (K : PySem.W.Frag) (H : Hp) (q : Addr) (b : Int) (ws : List Wr) : Prop := ∃ dx t xs, H q = some (.ins (He.ga K "Stack") dx (stkFs b t ws)) ∧ H t = some (.tup xs) ∧ WrapsAt K H xs ws
theorem StkAt.same {K : PySem.W.Frag} {H H' : Hp} {q : Addr} {b : Int} {ws : List Wr} (h : StkAt K H q b ws) (s : Same H H') : StkAt K H' q b ws := by
  obtain ⟨dx, t, xs, h1, h2, h3⟩ := h
  exact ⟨dx, t, xs, s _ _ h1, s _ _ h2, h3.same s⟩
/-- the size behind all wraps -/
noncomputable def grS (b : Int) (ws : List Wr) (n : Int) : Int := ws.foldl (fun m a => a.gr b m) n
def spFine (K : PySem.W.Frag) : Sp := fun vs H Q _ => ∃ (t : Addr) (xs : List V) (ws : List Wr), vs = [.ref t] ∧ (SqL K H t xs ∨ SqT K H t xs) ∧ WrapsAt K H xs ws ∧ (∀ a ∈ ws, a.ok) ∧ ∀ H', Same H H' → Q (.int (fineL ws)) H'
def spWraps (K : PySem.W.Frag) : Sp := fun vs H Q _ => ∃ (t : Addr) (xs : List V) (ws : List Wr), vs = [.ref t, .int 6] ∧ SqT K H t xs ∧ WrapsAt K H xs ws ∧ ws.length ≤ 6 ∧ ∀ H', Same H H' → Q .non H'
section
variable {P : Program} {w : World} {K : PySem.W.Frag} {mg : Str → Option Value} {base : Heap}
theorem up {H' : Hp} {z : Addr} {o : HO} (hz : H' z = none) : Same H' (upd H' z o) := fun y u e => by
  rw [upd_ne (ne_of_none e hz)]
  exact e
theorem ifb_pos {b : Bool} {A B : Prop} (h : b = true) (a : A) : if b = true then A else B := by
  rw [if_pos h]
  exact a
theorem ifb_neg {b : Bool} {A B : Prop} (h : b = false) (a : B) : if b = true then A else B := by
  rw [h, if_neg Bool.false_ne_true]
  exact a
theorem ok_fineness_of (T : Tx w K mg) : Prom P w K mg base CX0 1 "fineness_of" s_fineness_of ["wraps"] (spFine K) := by
  refine Prom.of T.d_fineness_of sc_fineness_of (fun vs H Q E h => ?_) (fun _ _ _ _ _ _ us hl => match us, hl with | [_], _ => rfl) (fun f cdv A outer s H vs Q E hr h => ?_)
  · obtain ⟨t, xs, ws, rfl, _⟩ := h
    rfl
  · obtain ⟨t, xs, ws, rfl, hT, hw, ha, k⟩ := h
    have inv : True := trivial
    refine ⟨_, (pss_cons (ps_set (i := 1) sc_fineness_of.nd rfl (Or.inl rfl) pe_int)
      (pss_cons (ps_for PassesOwn.never (by rfl) (pi_seq (pv 0)) (pg_name (i := 2) sc_fineness_of.nd rfl (Or.inl rfl)) (pss_one (ps_if (pt_cmpR op_eq (pe_fld (pv 2) rfl) pe_str (nomark _)) (pss_one (ps_set (i := 1) sc_fineness_of.nd rfl (Or.inl rfl) (pe_op op_mul (pe_op op_mul (pv 1) (pe_ix ix_tup (pe_fld (pv 2) rfl) pe_int (fun _ _ => rfl))) (pe_ix ix_tup (pe_fld (pv 2) rfl) pe_int (fun _ _ => rfl))))) (pss_one (ps_if (pt_cmpR op_in_seq (pe_fld (pv 2) rfl) (pe_tup (pa_cons pe_str (pa_cons pe_str (pa_cons pe_str pa_nil)))) (by rfl)) (pss_one (ps_set (i := 1) sc_fineness_of.nd rfl (Or.inl rfl) (pe_op op_mul (pv 1) (pe_ix ix_tup (pe_fld (pv 2) rfl) pe_int (fun _ _ => rfl))))) pss_nil)))))
      (pss_one (ps_ret (pv 1))))), ?_⟩
    rcases hT with hT | hT
    · have hT' : ∀ {H' : Hp}, Same H H' → SqL K H' t xs := fun {H'} hs => hs.seq hT
      refine .inl ⟨_, rfl, t, rfl, ⟨_, hT⟩, for_it (walk_list (K := K) (a := t) (xs := xs)) (fun i σ H' => Same H H' ∧ ∃ v, σ = [some (.ref t), some (.int ((ws.take i).foldl stepF 1)), v]) ⟨Same.refl H, none, rfl⟩ (fun _ _ H' _ h => hT' h.1) ?_ ?_⟩
      · rintro i x σ H1 H2 hi ⟨hs, v, rfl⟩ ⟨rfl, hx⟩
        obtain ⟨q, a, rfl, hq, hw1⟩ := hw.get hx
        have hok := ha a (List.mem_of_getElem? hq)
        obtain ⟨dx, p, h1, h2⟩ := hw1.same hs
        have et : (ws.take (i + 1)).foldl stepF 1 = stepF ((ws.take i).foldl stepF 1) a := by
          rw [List.take_succ, hq, List.foldl_append]
          rfl
        generalize (ws.take i).foldl stepF 1 = m at et ⊢
        rw [et]
        have num : ∀ {j : Nat} {n : Int}, a.nums[j]? = some n → atI (a.nums.map V.int) ((j : Nat) : Int) = some (.int n) := fun {j n} hj => atI_nat (by rw [List.getElem?_map, hj]; rfl)
        refine ⟨_, rfl, q, _, dx, _, _, rfl, h1, T.cl_Wrap, T.na_Wrap_kind, rfl, rfl, _, rfl, ?_⟩
        cases a with
        | coded m' c =>
          refine ifd_pos rfl ?_
          simp only [Wr.ok] at hok
          refine ⟨_, rfl, _, rfl, q, _, dx, _, _, rfl, h1, T.cl_Wrap, T.na_Wrap_numbers, rfl, p, _, _, _, rfl, rfl, SqT.of h2, num (j := 0) rfl, _, _, rfl, rfl, .inr ⟨by omega, by omega⟩, ?_⟩
          refine ⟨_, rfl, q, _, dx, _, _, rfl, h1, T.cl_Wrap, T.na_Wrap_numbers, rfl, p, _, _, _, rfl, rfl, SqT.of h2, num (j := 1) rfl, _, _, rfl, rfl, .inr ⟨by omega, by omega⟩, ?_⟩
          exact ⟨hs, _, rfl⟩
        | plus c =>
          refine ifs_neg (show ("plus" : Str) ≠ "coded" by decide) ?_
          refine ⟨_, rfl, q, _, dx, _, _, rfl, h1, T.cl_Wrap, T.na_Wrap_kind, rfl, (by show 3 ≤ sizeLine; decide), fun t2 ht2 => ?_⟩
          refine ⟨t2, _, rfl, .inr (SqT.of upd_same), rfl, rfl, _, rfl, ifb_neg (by kernel_rfl) ?_⟩
          exact ⟨hs.trans (up ht2), _, rfl⟩
        | told c =>
          refine ifs_neg (show ("told" : Str) ≠ "coded" by decide) ?_
          refine ⟨_, rfl, q, _, dx, _, _, rfl, h1, T.cl_Wrap, T.na_Wrap_kind, rfl, (by show 3 ≤ sizeLine; decide), fun t2 ht2 => ?_⟩
          refine ⟨t2, _, rfl, .inr (SqT.of upd_same), rfl, rfl, _, rfl, ifb_neg (by kernel_rfl) ?_⟩
          exact ⟨hs.trans (up ht2), _, rfl⟩
        | whole c =>
          refine ifs_neg (show ("whole" : Str) ≠ "coded" by decide) ?_
          refine ⟨_, rfl, q, _, dx, _, _, rfl, h1, T.cl_Wrap, T.na_Wrap_kind, rfl, (by show 3 ≤ sizeLine; decide), fun t2 ht2 => ?_⟩
          refine ⟨t2, _, rfl, .inr (SqT.of upd_same), rfl, rfl, _, rfl, ifb_neg (by kernel_rfl) ?_⟩
          exact ⟨hs.trans (up ht2), _, rfl⟩
        | pieces m' c =>
          refine ifs_neg (show ("pieces" : Str) ≠ "coded" by decide) ?_
          simp only [Wr.ok] at hok
          refine ⟨_, rfl, q, _, dx, _, _, rfl, h1, T.cl_Wrap, T.na_Wrap_kind, rfl, (by show 3 ≤ sizeLine; decide), fun t2 ht2 => ?_⟩
          refine ⟨t2, _, rfl, .inr (SqT.of upd_same), rfl, rfl, _, rfl, ifb_pos (by kernel_rfl) ?_⟩
          have g1 := (up ht2 (o := .tup [V.str "pieces", V.str "cut", V.str "filled"])) _ _ h1
          have g2 := (up ht2 (o := .tup [V.str "pieces", V.str "cut", V.str "filled"])) _ _ h2
          refine ⟨_, rfl, _, rfl, q, _, dx, _, _, rfl, g1, T.cl_Wrap, T.na_Wrap_numbers, rfl, p, _, _, _, rfl, rfl, SqT.of g2, num (j := 0) rfl, _, _, rfl, rfl, .inr ⟨by omega, by omega⟩, ?_⟩
          exact ⟨hs.trans (up ht2), _, rfl⟩
        | cut m' c =>
          refine ifs_neg (show ("cut" : Str) ≠ "coded" by decide) ?_
          simp only [Wr.ok] at hok
          refine ⟨_, rfl, q, _, dx, _, _, rfl, h1, T.cl_Wrap, T.na_Wrap_kind, rfl, (by show 3 ≤ sizeLine; decide), fun t2 ht2 => ?_⟩
          refine ⟨t2, _, rfl, .inr (SqT.of upd_same), rfl, rfl, _, rfl, ifb_pos (by kernel_rfl) ?_⟩
          have g1 := (up ht2 (o := .tup [V.str "pieces", V.str "cut", V.str "filled"])) _ _ h1
          have g2 := (up ht2 (o := .tup [V.str "pieces", V.str "cut", V.str "filled"])) _ _ h2
          refine ⟨_, rfl, _, rfl, q, _, dx, _, _, rfl, g1, T.cl_Wrap, T.na_Wrap_numbers, rfl, p, _, _, _, rfl, rfl, SqT.of g2, num (j := 0) rfl, _, _, rfl, rfl, .inr ⟨by omega, by omega⟩, ?_⟩
          exact ⟨hs.trans (up ht2), _, rfl⟩
        | filled m' =>
          refine ifs_neg (show ("filled" : Str) ≠ "coded" by decide) ?_
          simp only [Wr.ok] at hok
          refine ⟨_, rfl, q, _, dx, _, _, rfl, h1, T.cl_Wrap, T.na_Wrap_kind, rfl, (by show 3 ≤ sizeLine; decide), fun t2 ht2 => ?_⟩
          refine ⟨t2, _, rfl, .inr (SqT.of upd_same), rfl, rfl, _, rfl, ifb_pos (by kernel_rfl) ?_⟩
          have g1 := (up ht2 (o := .tup [V.str "pieces", V.str "cut", V.str "filled"])) _ _ h1
          have g2 := (up ht2 (o := .tup [V.str "pieces", V.str "cut", V.str "filled"])) _ _ h2
          refine ⟨_, rfl, _, rfl, q, _, dx, _, _, rfl, g1, T.cl_Wrap, T.na_Wrap_numbers, rfl, p, _, _, _, rfl, rfl, SqT.of g2, num (j := 0) rfl, _, _, rfl, rfl, .inr ⟨by omega, by omega⟩, ?_⟩
          exact ⟨hs.trans (up ht2), _, rfl⟩
      · rintro σ H' ⟨hs, v, rfl⟩
        rw [hw.len, List.take_length]
        exact ⟨_, rfl, k _ hs⟩
    · have hT' : ∀ {H' : Hp}, Same H H' → SqT K H' t xs := fun {H'} hs => by
        rcases hT with (h | ⟨o, h⟩) | h
        · exact .inl (.inl (hs _ _ h))
        · exact .inl (.inr ⟨o, hs _ _ h⟩)
        · exact .inr h
      refine .inr ⟨_, rfl, t, rfl, ⟨_, hT⟩, for_it (walk_tup (K := K) (a := t) (xs := xs)) (fun i σ H' => Same H H' ∧ ∃ v, σ = [some (.ref t), some (.int ((ws.take i).foldl stepF 1)), v]) ⟨Same.refl H, none, rfl⟩ (fun _ _ H' _ h => hT' h.1) ?_ ?_⟩
      · rintro i x σ H1 H2 hi ⟨hs, v, rfl⟩ ⟨rfl, hx⟩
        obtain ⟨q, a, rfl, hq, hw1⟩ := hw.get hx
        have hok := ha a (List.mem_of_getElem? hq)
        obtain ⟨dx, p, h1, h2⟩ := hw1.same hs
        have et : (ws.take (i + 1)).foldl stepF 1 = stepF ((ws.take i).foldl stepF 1) a := by
          rw [List.take_succ, hq, List.foldl_append]
          rfl
        generalize (ws.take i).foldl stepF 1 = m at et ⊢
        rw [et]
        have num : ∀ {j : Nat} {n : Int}, a.nums[j]? = some n → atI (a.nums.map V.int) ((j : Nat) : Int) = some (.int n) := fun {j n} hj => atI_nat (by rw [List.getElem?_map, hj]; rfl)
        refine ⟨_, rfl, q, _, dx, _, _, rfl, h1, T.cl_Wrap, T.na_Wrap_kind, rfl, rfl, _, rfl, ?_⟩
        cases a with
        | coded m' c =>
          refine ifd_pos rfl ?_
          simp only [Wr.ok] at hok
          refine ⟨_, rfl, _, rfl, q, _, dx, _, _, rfl, h1, T.cl_Wrap, T.na_Wrap_numbers, rfl, p, _, _, _, rfl, rfl, SqT.of h2, num (j := 0) rfl, _, _, rfl, rfl, .inr ⟨by omega, by omega⟩, ?_⟩
          refine ⟨_, rfl, q, _, dx, _, _, rfl, h1, T.cl_Wrap, T.na_Wrap_numbers, rfl, p, _, _, _, rfl, rfl, SqT.of h2, num (j := 1) rfl, _, _, rfl, rfl, .inr ⟨by omega, by omega⟩, ?_⟩
          exact ⟨hs, _, rfl⟩
        | plus c =>
          refine ifs_neg (show ("plus" : Str) ≠ "coded" by decide) ?_
          refine ⟨_, rfl, q, _, dx, _, _, rfl, h1, T.cl_Wrap, T.na_Wrap_kind, rfl, (by show 3 ≤ sizeLine; decide), fun t2 ht2 => ?_⟩
          refine ⟨t2, _, rfl, .inr (SqT.of upd_same), rfl, rfl, _, rfl, ifb_neg (by kernel_rfl) ?_⟩
          exact ⟨hs.trans (up ht2), _, rfl⟩
        | told c =>
          refine ifs_neg (show ("told" : Str) ≠ "coded" by decide) ?_
          refine ⟨_, rfl, q, _, dx, _, _, rfl, h1, T.cl_Wrap, T.na_Wrap_kind, rfl, (by show 3 ≤ sizeLine; decide), fun t2 ht2 => ?_⟩
          refine ⟨t2, _, rfl, .inr (SqT.of upd_same), rfl, rfl, _, rfl, ifb_neg (by kernel_rfl) ?_⟩
          exact ⟨hs.trans (up ht2), _, rfl⟩
        | whole c =>
          refine ifs_neg (show ("whole" : Str) ≠ "coded" by decide) ?_
          refine ⟨_, rfl, q, _, dx, _, _, rfl, h1, T.cl_Wrap, T.na_Wrap_kind, rfl, (by show 3 ≤ sizeLine; decide), fun t2 ht2 => ?_⟩
          refine ⟨t2, _, rfl, .inr (SqT.of upd_same), rfl, rfl, _, rfl, ifb_neg (by kernel_rfl) ?_⟩
          exact ⟨hs.trans (up ht2), _, rfl⟩
        | pieces m' c =>
          refine ifs_neg (show ("pieces" : Str) ≠ "coded" by decide) ?_
          simp only [Wr.ok] at hok
          refine ⟨_, rfl, q, _, dx, _, _, rfl, h1, T.cl_Wrap, T.na_Wrap_kind, rfl, (by show 3 ≤ sizeLine; decide), fun t2 ht2 => ?_⟩
          refine ⟨t2, _, rfl, .inr (SqT.of upd_same), rfl, rfl, _, rfl, ifb_pos (by kernel_rfl) ?_⟩
          have g1 := (up ht2 (o := .tup [V.str "pieces", V.str "cut", V.str "filled"])) _ _ h1
          have g2 := (up ht2 (o := .tup [V.str "pieces", V.str "cut", V.str "filled"])) _ _ h2
          refine ⟨_, rfl, _, rfl, q, _, dx, _, _, rfl, g1, T.cl_Wrap, T.na_Wrap_numbers, rfl, p, _, _, _, rfl, rfl, SqT.of g2, num (j := 0) rfl, _, _, rfl, rfl, .inr ⟨by omega, by omega⟩, ?_⟩
          exact ⟨hs.trans (up ht2), _, rfl⟩
        | cut m' c =>
          refine ifs_neg (show ("cut" : Str) ≠ "coded" by decide) ?_
          simp only [Wr.ok] at hok
          refine ⟨_, rfl, q, _, dx, _, _, rfl, h1, T.cl_Wrap, T.na_Wrap_kind, rfl, (by show 3 ≤ sizeLine; decide), fun t2 ht2 => ?_⟩
          refine ⟨t2, _, rfl, .inr (SqT.of upd_same), rfl, rfl, _, rfl, ifb_pos (by kernel_rfl) ?_⟩
          have g1 := (up ht2 (o := .tup [V.str "pieces", V.str "cut", V.str "filled"])) _ _ h1
          have g2 := (up ht2 (o := .tup [V.str "pieces", V.str "cut", V.str "filled"])) _ _ h2
          refine ⟨_, rfl, _, rfl, q, _, dx, _, _, rfl, g1, T.cl_Wrap, T.na_Wrap_numbers, rfl, p, _, _, _, rfl, rfl, SqT.of g2, num (j := 0) rfl, _, _, rfl, rfl, .inr ⟨by omega, by omega⟩, ?_⟩
          exact ⟨hs.trans (up ht2), _, rfl⟩
        | filled m' =>
          refine ifs_neg (show ("filled" : Str) ≠ "coded" by decide) ?_
          simp only [Wr.ok] at hok
          refine ⟨_, rfl, q, _, dx, _, _, rfl, h1, T.cl_Wrap, T.na_Wrap_kind, rfl, (by show 3 ≤ sizeLine; decide), fun t2 ht2 => ?_⟩
          refine ⟨t2, _, rfl, .inr (SqT.of upd_same), rfl, rfl, _, rfl, ifb_pos (by kernel_rfl) ?_⟩
          have g1 := (up ht2 (o := .tup [V.str "pieces", V.str "cut", V.str "filled"])) _ _ h1
          have g2 := (up ht2 (o := .tup [V.str "pieces", V.str "cut", V.str "filled"])) _ _ h2
          refine ⟨_, rfl, _, rfl, q, _, dx, _, _, rfl, g1, T.cl_Wrap, T.na_Wrap_numbers, rfl, p, _, _, _, rfl, rfl, SqT.of g2, num (j := 0) rfl, _, _, rfl, rfl, .inr ⟨by omega, by omega⟩, ?_⟩
          exact ⟨hs.trans (up ht2), _, rfl⟩
      · rintro σ H' ⟨hs, v, rfl⟩
        rw [hw.len, List.take_length]
        exact ⟨_, rfl, k _ hs⟩
end
theorem gr_pow {b : Int} {a : Wr} (hb : 2 ≤ b) (h : a.ok) {n : Int} {k : Nat} (hk : 12 ≤ k) (hn : 0 ≤ n) (hn2 : n < 2 ^ k) : 0 ≤ a.gr b n ∧ a.gr b n < 2 ^ (k + 8) := by
  have g := gr_le hb h hn
  have e : (2 : Int) ^ (k + 8) = 2 ^ k * 256 := by rw [Int.pow_add]; rfl
  have e2 : (2 : Int) ^ 12 ≤ 2 ^ k := pow_mono (by decide) hk
  have e3 : (2 : Int) ^ 12 = 4096 := by decide
  omega
theorem grS_pow {b : Int} (hb : 2 ≤ b) : ∀ (ws : List Wr), (∀ a ∈ ws, a.ok) → ∀ {n : Int} {k : Nat}, 12 ≤ k → 0 ≤ n → n < 2 ^ k → 0 ≤ grS b ws n ∧ grS b ws n < 2 ^ (k + 8 * ws.length)
  | [], _, n, k, _, h0, h1 => ⟨h0, h1⟩
  | a :: ws, ha, n, k, hk, h0, h1 => by
    have g := gr_pow hb (ha a (List.mem_cons_self ..)) hk h0 h1
    have ih := grS_pow hb ws (fun x hx => ha x (List.mem_cons_of_mem _ hx)) (show 12 ≤ k + 8 by omega) g.1 g.2
    refine ⟨ih.1, ?_⟩
    have e : k + 8 + 8 * ws.length = k + 8 * (a :: ws).length := by simp; omega
    rw [e] at ih
    exact ih.2
def spStack0 (K : PySem.W.Frag) : Sp := fun vs H Q _ => ∃ (x p dx : Addr) (b : Int) (xs : List V) (ws : List Wr), vs = [.ref x, .int b, .ref p] ∧ StkOk b ws ∧ H x = some (.ins (He.ga K "Stack") dx []) ∧ H p = some (.tup xs) ∧ WrapsAt K H xs ws ∧
  ∀ H', Kp x H H' → H' x = some (.ins (He.ga K "Stack") dx (stkFs b p ws)) → Q .non H'
def spStack (K : PySem.W.Frag) : Sp := fun vs H Q _ => ∃ (b : Int) (xs : List V) (ws : List Wr), vs = .int b :: xs ∧ StkOk b ws ∧ WrapsAt K H xs ws ∧ ∀ q H', H q = none → Same H H' → StkAt K H' q b ws → Q (.ref q) H'
def spSGrown (K : PySem.W.Frag) : Sp := fun vs H Q _ => ∃ (q : Addr) (b : Int) (ws : List Wr) (n : Int), vs = [.ref q, .int n] ∧ StkAt K H q b ws ∧ StkOk b ws ∧ 0 ≤ n ∧ n < 2 ^ 1000 ∧ Q (.int (grS b ws n)) H
def spSSize (K : PySem.W.Frag) : Sp := fun vs H Q _ => ∃ (q : Addr) (b : Int) (ws : List Wr) (n : Int), vs = [.ref q, .int n] ∧ StkAt K H q b ws ∧ StkOk b ws ∧ 0 ≤ n ∧ n ≤ 10 ^ 60 - 1 ∧ Q (.int (grS b ws n)) H
def spIsWrap (K : PySem.W.Frag) : Sp := fun vs H Q _ => ∃ (q : Addr) (a : Wr), vs = [.ref q] ∧ WrapAt K H q a ∧ Q .non H
def spIsStack (K : PySem.W.Frag) : Sp := fun vs H Q _ => ∃ (q : Addr) (b : Int) (ws : List Wr), vs = [.ref q] ∧ StkAt K H q b ws ∧ Q .non H
def spAdd (K : PySem.W.Frag) : Sp := fun vs H Q _ => ∃ (q r : Addr) (b : Int) (ws : List Wr) (a : Wr), vs = [.ref q, .ref r] ∧ StkAt K H q b ws ∧ WrapAt K H r a ∧ ws.length < 6 ∧ StkOk b (ws ++ [a]) ∧ ∀ q' H', H q' = none → Same H H' → StkAt K H' q' b (ws ++ [a]) → Q (.ref q') H'
section
variable {P : Program} {w : World} {K : PySem.W.Frag} {mg : Str → Option Value} {base : Heap}
theorem ok_check_wraps (T : Tx w K mg) : Prom P w K mg base CX0 1 "check_wraps" s_check_wraps ["values", "most"] (spWraps K) := by
  refine Prom.of T.d_check_wraps sc_check_wraps (fun vs H Q E h => ?_) (fun _ _ _ _ _ _ us hl => match us, hl with | [_, _], _ => rfl) (fun f cdv A outer s H vs Q E hr h => ?_)
  · obtain ⟨t, xs, ws, rfl, _⟩ := h
    rfl
  · obtain ⟨t, xs, ws, rfl, hT, hw, hl, k⟩ := h
    have hT' : ∀ {H' : Hp}, Same H H' → SqT K H' t xs := fun {H'} hs => by
      rcases hT with (h | ⟨o, h⟩) | h
      · exact .inl (.inl (hs _ _ h))
      · exact .inl (.inr ⟨o, hs _ _ h⟩)
      · exact .inr h
    have hlx := hw.len
    refine ⟨_, (pss_cons (ps_if (pt_cmp (pc_gt (pe_callB call_len_seq (by rfl) T.b_len (by decide +kernel) (pa_cons (pv 0) pa_nil)) (pv 1))) (pss_one ps_never) pss_nil)
      (pss_one (ps_for PassesOwn.never (by rfl) (pi_enumT (by rfl) T.b_enumerate (pa_cons (pv 0) pa_nil)) (pg_tup rfl (pgs_cons (pg_name (i := 2) sc_check_wraps.nd rfl (Or.inl rfl)) (pgs_cons (pg_name (i := 3) sc_check_wraps.nd rfl (Or.inl rfl)) pgs_nil))) (pss_one (ps_if (pt_not (pt_val (pe_callB call_isi (by rfl) T.b_isinstance (by decide +kernel) (pa_cons (pv 3) (pa_cons (pe_glob (v := .ref _) (by rfl) T.k_Wrap rfl) pa_nil))))) (pss_one ps_never) pss_nil))))), ?_⟩
    refine ⟨_, rfl, t, xs, rfl, .inr hT, _, rfl, _, _, rfl, rfl, _, rfl, ifd (fun c => absurd c (by show ¬ (6 : Int) < (xs.length : Int); omega)) (fun _ => ?_)⟩
    refine ⟨_, rfl, t, xs, rfl, hT, for_it (walk_enumT (K := K) (a := t) (xs := xs)) (fun i σ H' => Same H H' ∧ ∃ v1 v2, σ = [some (.ref t), some (.int 6), v1, v2]) ⟨Same.refl H, none, none, rfl⟩ (fun _ _ H' _ h => hT' h.1) ?_ ?_⟩
    · rintro i x σ H1 H2 hi ⟨hs, v1, v2, rfl⟩ ⟨t2, x1, x2, rfl, ht2, rfl, e1, e2⟩
      cases e1
      obtain ⟨q, a, rfl, hq, hw1⟩ := hw.get e2
      have hs2 := hs.trans (up (o := .tup [.int (i : Nat), .ref q]) ht2)
      obtain ⟨dx, p, h1, h2⟩ := hw1.same hs2
      refine ⟨t2, _, rfl, SqT.of upd_same, rfl, _, _, rfl, _, _, rfl, rfl, ?_⟩
      refine ⟨_, rfl, _, _, _, _, true, rfl, .own _, T.is_Wrap.ty h1, kit_self, true, rfl, iteF ?_⟩
      exact ⟨hs2, _, _, rfl⟩
    · rintro σ H' ⟨hs, v1, v2, rfl⟩
      exact k _ hs
theorem ok_Stack (T : Tx w K mg) : PromC P w K mg base CX0 4 "Stack" (spStack K) := by
  refine PromC.star (sp0 := spStack0 K) T.mk_Stack T.k_Stack T.dm_Stack___init__ sc_Stack___init__ (fun _ _ _ _ _ _ _ _ => rfl) (fun _ _ _ _ _ _ _ _ _ _ => rfl) (fun f cdv A outer s H vs Q E hr h => ?_) (fun vs H Q E h => ?_)
  · obtain ⟨x, p, dx, b, xs, ws, rfl, so, hx, hp, hw, k⟩ := h
    refine ⟨_, (pss_cons (ps_expr (pe_callP (ok_check_base T) (hr.mono (by decide)) (by rfl) pass0 (pa_cons (pv 1) pa_nil)))
      (pss_cons (ps_expr (pe_callP (ok_check_wraps T) (hr.mono (by decide)) (by rfl) pass0 (pa_cons (pv 2) (pa_cons (pe_gint T.c_MOST_WRAPS) pa_nil))))
      (pss_cons (ps_set (i := 3) sc_Stack___init__.nd rfl (Or.inl rfl) (pe_callP (ok_fineness_of T) (hr.mono (by decide)) (by rfl) pass0 (pa_cons (pv 2) pa_nil)))
      (pss_cons (ps_if (pt_cmp (pc_gt (pv 3) (pe_gint T.c_MOST_FINENESS))) (pss_one ps_never) pss_nil)
      (pss_cons (ps_fld (pv 0) (pv 1) rfl)
      (pss_cons (ps_fld (pv 0) (pv 2) rfl)
      (pss_one (ps_fld (pv 0) (pv 3) rfl)))))))), ?_⟩
    refine ⟨_, rfl, b, rfl, so.b0, so.b1, ?_⟩
    refine ⟨_, rfl, p, xs, ws, rfl, SqT.of hp, hw, so.len, fun H1 s1 => ?_⟩
    refine ⟨_, rfl, p, xs, ws, rfl, .inr (SqT.of (s1 _ _ hp)), hw.same s1, so.ok, fun H2 s2 => ?_⟩
    have sf := so.fine
    refine ⟨_, rfl, _, _, rfl, rfl, _, rfl, ifd (fun c => absurd c (by show ¬ (120 : Int) < fineL ws; omega)) (fun _ => ?_)⟩
    refine ⟨_, rfl, _, rfl, x, _, dx, _, rfl, s2 _ _ (s1 _ _ hx), T.cl_Stack, T.na_Stack_base, (show (0 : Nat) < 1000 by decide), ?_⟩
    refine ⟨_, rfl, _, rfl, x, _, dx, _, rfl, upd_same, T.cl_Stack, T.na_Stack_wraps, (show (1 : Nat) < 1000 by decide), ?_⟩
    refine ⟨_, rfl, _, rfl, x, _, dx, _, rfl, upd_same, T.cl_Stack, T.na_Stack_fineness, (show (2 : Nat) < 1000 by decide), ?_⟩
    exact k _ (Kp.set (Kp.set (Kp.set fun z o n e => s2 _ _ (s1 _ _ e)))) upd_same
  · obtain ⟨b, xs, ws, rfl, so, hw, k⟩ := h
    have hl : xs.length ≤ sizeLine := by
      rw [hw.len, sizeLine_eq]
      have := so.len
      omega
    refine ⟨_, _, rfl, hl, fun x dx p hx hdx nd np npd hp => ?_⟩
    have same : Same H (upd (upd (upd H dx (.own x)) x (.ins (He.ga K "Stack") dx [])) p (.tup xs)) := fun z o e => by
      rw [upd_ne (ne_of_none e hp), upd_ne (ne_of_none e hx), upd_ne (ne_of_none e hdx)]
      exact e
    refine ⟨x, p, dx, b, xs, ws, rfl, so, by rw [upd_ne (Ne.symm np)]; exact upd_same, upd_same, hw.same same, fun H' kp hx' => ⟨rfl, ?_⟩⟩
    have s2 : Same H H' := fun z o e => kp _ _ (ne_of_none e hx) (same _ _ e)
    exact k x H' hx s2 ⟨dx, p, xs, hx', kp _ _ np upd_same, hw.same s2⟩
theorem ok_Stack_grown (T : Tx w K mg) : PromM P w K mg base CX0 4 "Stack" "grown" ["self", "length"] (spSGrown K) := by
  refine PromM.of T.cl_Stack T.me_Stack_grown T.dm_Stack_grown sc_Stack_grown (fun vs H Q E h => ?_) (fun _ _ _ _ _ _ us hl => match us, hl with | [_, _], _ => rfl) (fun f cdv A outer s H vs Q E hr h => ?_)
  · obtain ⟨q, b, ws, n, rfl, _⟩ := h
    rfl
  · obtain ⟨q, b, ws, n, rfl, ⟨dx, t, xs, hq, ht, hw⟩, so, n0, n1, k⟩ := h
    refine ⟨_, (pss_cons (ps_for PassesOwn.never (by rfl) (pi_tup (pe_fld (pv 0) rfl)) (pg_name (i := 2) sc_Stack_grown.nd rfl (Or.inl rfl)) (pss_one (ps_set (i := 1) sc_Stack_grown.nd rfl (Or.inl rfl) (pe_methP (ok_Wrap_grown T) (hr.mono (by decide)) pass0 (pv 2) (pa_cons (pv 1) (pa_cons (pe_fld (pv 0) rfl) pa_nil))))))
      (pss_one (ps_ret (pv 1)))), ?_⟩
    refine ⟨_, rfl, q, _, dx, _, _, rfl, hq, T.cl_Stack, T.na_Stack_wraps, rfl, t, rfl, ⟨_, SqT.of ht⟩, for_it (walk_tup (K := K) (a := t) (xs := xs)) (fun i σ H' => H' = H ∧ ∃ v, σ = [some (.ref q), some (.int (grS b (ws.take i) n)), v]) ⟨rfl, none, rfl⟩ (fun _ _ H' _ h => by rw [h.1]; exact SqT.of ht) ?_ ?_⟩
    · rintro i x σ H1 H2 hi ⟨rfl, v, rfl⟩ ⟨rfl, hx⟩
      obtain ⟨r, a, rfl, hr2, hw1⟩ := hw.get hx
      have hok := so.ok a (List.mem_of_getElem? hr2)
      obtain ⟨dx2, p, h1, h2⟩ := id hw1
      have et : grS b (ws.take (i + 1)) n = a.gr b (grS b (ws.take i) n) := by
        unfold grS
        rw [List.take_succ, hr2, List.foldl_append]
        rfl
      have hl := so.len
      have hlt : (ws.take i).length ≤ 6 := by
        rw [List.length_take]
        omega
      have bd := grS_pow so.b0 (ws.take i) (fun z hz => so.ok z (List.mem_of_mem_take hz)) (show 12 ≤ 1000 by decide) n0 n1
      have bd2 : grS b (ws.take i) n < 2 ^ 3000 := Int.lt_of_lt_of_le bd.2 (pow_mono (by decide) (by omega))
      rw [et]
      generalize grS b (ws.take i) n = m at bd bd2 ⊢
      refine ⟨_, rfl, r, dx2, _, rfl, h1, rfl, _, rfl, _, rfl, q, _, dx, _, _, rfl, hq, T.cl_Stack, T.na_Stack_base, rfl, a, r, m, b, rfl, hw1, hok, so.b0, so.b1, bd.1, bd2, ?_⟩
      exact ⟨rfl, _, rfl⟩
    · rintro σ H' ⟨rfl, v, rfl⟩
      rw [hw.len, List.take_length]
      exact ⟨_, rfl, k⟩
end
/-! ### the integer that a word tells -/
def spAmount : Sp := fun vs H Q _ => ∃ s : Str, vs = [.str s] ∧ s.length ≤ 2000 ∧ Q (.int (numV s)) H
theorem str_dec {a b : Str} : decide (V.str a = V.str b) = decide (a = b) := by
  by_cases h : a = b
  · rw [decide_eq_true h, decide_eq_true (congrArg V.str h)]
  · rw [decide_eq_false h, decide_eq_false fun z => h (by cases z; rfl)]
theorem str_ne_nil {s : Str} (h : s ≠ "") : ∃ c cs, s.cps.toList = c :: cs := by
  match e : s.cps.toList with
  | c :: cs => exact ⟨c, cs, rfl⟩
  | [] =>
    refine absurd ?_ h
    have : s.cps = #[] := by
      rw [← Array.toList_inj]
      exact e
    cases s
    cases this
    rfl
theorem ite_same2 {b : Bool} {A R : Prop} (h : b = true → R → A) (r : R) : if b = true then A else R := by
  cases b with
  | false => exact r
  | true => exact h rfl r
section
variable {P : Program} {w : World} {K : PySem.W.Frag} {mg : Str → Option Value} {base : Heap}
theorem ok_amount_of (T : Tx w K mg) : Prom P w K mg base CX0 2 "amount_of" s_amount_of ["word"] spAmount := by
  refine Prom.of T.d_amount_of sc_amount_of (fun vs H Q E h => ?_) (fun _ _ _ _ _ _ us hl => match us, hl with | [_], _ => rfl) (fun f cdv A outer s H vs Q E hr h => ?_)
  · obtain ⟨z, rfl, _⟩ := h
    rfl
  · obtain ⟨z, rfl, hz, k⟩ := h
    refine ⟨_, (pss_cons (ps_if (PW.pt (pw_or (pt_cmpR op_eq (pv 0) pe_str (nomark _)) (pw_or1 (PW.pt (pw_and (pt_cmpR op_eq (pe_ix ix_str (pv 0) pe_int (fun _ _ => rfl)) pe_str (nomark _)) (pw_and1 (pt_cmpR op_ne (pv 0) pe_str (nomark _)))))))) (pss_one (ps_ret (pe_un un_neg pe_int))) pss_nil)
      (pss_cons (ps_set (i := 1) sc_amount_of.nd rfl (Or.inl rfl) pe_int)
      (pss_cons (ps_for PassesOwn.never (by rfl) (pi_str (pv 0)) (pg_name (i := 2) sc_amount_of.nd rfl (Or.inl rfl)) (pss_cons (ps_if (pt_cmpR op_notIn_sign (pv 2) (pe_gstr T.c_TENS) (by rfl)) (pss_one (ps_ret (pe_un un_neg pe_int))) pss_nil)
      (pss_one (ps_set (i := 1) sc_amount_of.nd rfl (Or.inl rfl) (pe_op op_add (pe_op op_mul pe_int (pv 1)) (pe_sindex (pe_gstr T.c_TENS) (pv 2)))))))
      (pss_one (ps_ret (pv 1)))))), ?_⟩
    have hz2 : z.length ≤ sizeLine := Nat.le_trans hz (by decide)
    by_cases e0 : z = ""
    · subst e0
      refine ⟨_, rfl, rfl, _, rfl, iteT ?_⟩
      exact iteT ⟨_, rfl, k⟩
    obtain ⟨c, cs, ec⟩ := str_ne_nil e0
    refine ⟨_, rfl, rfl, _, rfl, ifd (fun x => absurd (by cases x; rfl) e0) (fun _ => ?_)⟩
    refine ⟨_, rfl, _, _, c, rfl, rfl, hz2, atI_nat (j := 0) (by rw [ec]; rfl), rfl, _, rfl, ?_⟩
    by_cases e1 : z.cps.toList[0]? = some 48 ∧ z ≠ "0"
    · have ec0 : c = 48 := by
        have := e1.1
        rw [ec] at this
        exact Option.some.inj this
      refine ifd (fun _ => ?_) (fun x => absurd (by rw [ec0]; rfl) x)
      refine ⟨_, rfl, rfl, _, rfl, ifn (fun _ => ?_) (fun x => absurd (by cases x; rfl) e1.2)⟩
      refine ⟨_, rfl, ?_⟩
      rw [numV_zero e0 e1.1 e1.2] at k
      exact k
    refine ite_same2 (fun x r => ⟨_, rfl, rfl, _, rfl, ?_⟩) ?_
    · have ez : z = "0" := by
        refine Decidable.byContradiction fun y => e1 ⟨?_, y⟩
        rw [ec]
        have x := of_decide_eq_true x
        cases x
        rfl
      rw [show (!decide (V.str z = V.str (Str.ofString "0"))) = false by rw [ez]; rfl]
      exact r
    refine iteF ?_
    refine ⟨_, rfl, ?_⟩
    refine ⟨_, rfl, for_str (z := z) (fun i σ H' => H' = H ∧ (∀ c ∈ z.cps.toList.take i, dig c = true) ∧ ∃ e, σ = [some (.str z), some (.int (digV (z.cps.toList.take i))), e]) ⟨rfl, fun c hc => by simp at hc, none, rfl⟩ ?_ ?_⟩
    · rintro i d σ H' hd ⟨rfl, hall, e, rfl⟩
      refine ⟨_, rfl, d, _, rfl, rfl, _, rfl, ?_⟩
      rw [show decide (d ∈ (Str.ofString "0123456789").cps.toList) = dig d from tens_mem d]
      cases hg : dig d with
      | false =>
        refine iteT ⟨_, rfl, ?_⟩
        rw [numV_not (List.mem_of_getElem? hd) hg] at k
        exact k
      | true =>
        have hd2 := of_decide_eq_true hg
        have ed : d = 48 + (⟨d - 48, by omega⟩ : Fin 10).val := by
          show d = 48 + (d - 48)
          omega
        have et : z.cps.toList.take (i + 1) = z.cps.toList.take i ++ [d] := by
          rw [List.take_succ, hd]
          rfl
        refine iteF ?_
        refine ⟨_, rfl, _, _, rfl, rfl, .inl ⟨by decide, by decide⟩, ⟨_, rfl⟩, _, rfl, _, _, _, [], rfl, rfl, (by rw [ed]; exact tens_at _), _, _, rfl, rfl, ?_⟩
        refine ⟨rfl, fun c hc => ?_, some (.str ⟨#[d]⟩), ?_⟩
        · rw [et, List.mem_append, List.mem_singleton] at hc
          rcases hc with hc | rfl
          · exact hall c hc
          · exact hg
        · rw [et, digV_snoc]
          have e2 : ((d - 48 : Nat) : Int) = (d : Int) - 48 := by omega
          rw [← e2]
          rfl
    · rintro σ H' ⟨rfl, hall, e, rfl⟩
      have e2 : z.cps.toList.take z.length = z.cps.toList := List.take_of_length_le (by simp [Str.length])
      rw [e2] at hall ⊢
      rw [numV_all e0 e1 hall] at k
      exact ⟨_, rfl, k⟩
end
theorem st_eq {F : L2.St → Hp → Prop} {σ : L2.St} {H : Hp} (σ' : L2.St) (e : σ = σ') (k : F σ' H) : F σ H := e ▸ k
theorem hp_eq {F : L2.St → Hp → Prop} {σ : L2.St} {H : Hp} (H2 : Hp) (e : H = H2) (k : F σ H2) : F σ H := e ▸ k
/-! ### the wrap that a text tells -/
/-- the wrap of a kind with numbers, if there is one -/
def mkW (kd : Str) (ns : List Int) : Option Wr := match ns with
  | [c] => if kd = "plus" then (if 0 ≤ c ∧ c ≤ 1000 then some (.plus c) else none)
      else if kd = "told" then (if 0 ≤ c ∧ c ≤ 1000 then some (.told c) else none)
      else if kd = "whole" then (if 0 ≤ c ∧ c ≤ 1000 then some (.whole c) else none)
      else if kd = "filled" then (if 1 ≤ c ∧ c ≤ 60 then some (.filled c) else none)
      else none
  | [m, c] => if kd = "pieces" then (if 1 ≤ m ∧ m ≤ 60 ∧ 0 ≤ c ∧ c ≤ 60 then some (.pieces m c) else none)
      else if kd = "cut" then (if 1 ≤ m ∧ m ≤ 60 ∧ 0 ≤ c ∧ c ≤ 60 then some (.cut m c) else none)
      else if kd = "coded" then (if 1 ≤ m ∧ m ≤ 60 ∧ m ≤ c ∧ c ≤ 120 then some (.coded m c) else none)
      else none
  | _ => none
theorem mkW_spec {kd : Str} {ns : List Int} {a : Wr} (h : mkW kd ns = some a) : a.kind = kd ∧ a.nums = ns ∧ a.ok := by
  unfold mkW at h
  split at h
  · repeat' split at h
    all_goals first | (cases h; done) | skip
    all_goals
      rename_i hk hc
      cases h
      exact ⟨hk.symm, rfl, hc⟩
  · repeat' split at h
    all_goals first | (cases h; done) | skip
    all_goals
      rename_i hk hc
      cases h
      exact ⟨hk.symm, rfl, hc⟩
  · cases h
theorem mkW_ok {a : Wr} (h : a.ok) : mkW a.kind a.nums = some a := by
  cases a with
  | plus c => exact if_pos h
  | told c => exact if_pos h
  | whole c => exact if_pos h
  | filled c => exact if_pos h
  | pieces m c => exact if_pos h
  | cut m c => exact if_pos h
  | coded m c => exact if_pos h
theorem kinds_rep {kd : Str} (h : kd ∈ kinds7) : ∃ a : Wr, a.kind = kd := by
  have h : kd ∈ [("plus" : Str), "told", "whole", "pieces", "cut", "coded", "filled"] := h
  simp only [List.mem_cons, List.not_mem_nil, or_false] at h
  rcases h with rfl | rfl | rfl | rfl | rfl | rfl | rfl
  · exact ⟨.plus 0, rfl⟩
  · exact ⟨.told 0, rfl⟩
  · exact ⟨.whole 0, rfl⟩
  · exact ⟨.pieces 1 0, rfl⟩
  · exact ⟨.cut 1 0, rfl⟩
  · exact ⟨.coded 1 1, rfl⟩
  · exact ⟨.filled 1, rfl⟩
theorem kind_mem (a : Wr) : a.kind ∈ kinds7 := by
  cases a with
  | plus _ => exact (show ("plus" : Str) ∈ kinds7 by decide)
  | told _ => exact (show ("told" : Str) ∈ kinds7 by decide)
  | whole _ => exact (show ("whole" : Str) ∈ kinds7 by decide)
  | pieces _ _ => exact (show ("pieces" : Str) ∈ kinds7 by decide)
  | cut _ _ => exact (show ("cut" : Str) ∈ kinds7 by decide)
  | coded _ _ => exact (show ("coded" : Str) ∈ kinds7 by decide)
  | filled _ => exact (show ("filled" : Str) ∈ kinds7 by decide)
def rlen (k : Str) : Nat := if k = "pieces" ∨ k = "cut" ∨ k = "coded" then 2 else 1
theorem rng_rlen (a : Wr) : a.rng.length = rlen a.kind := by
  cases a with
  | plus _ => exact (show 1 = rlen "plus" by decide)
  | told _ => exact (show 1 = rlen "told" by decide)
  | whole _ => exact (show 1 = rlen "whole" by decide)
  | pieces _ _ => exact (show 2 = rlen "pieces" by decide)
  | cut _ _ => exact (show 2 = rlen "cut" by decide)
  | coded _ _ => exact (show 2 = rlen "coded" by decide)
  | filled _ => exact (show 1 = rlen "filled" by decide)
theorem mkW_out {kd : Str} (h : kd ∉ kinds7) (ns : List Int) : mkW kd ns = none := by
  cases e : mkW kd ns with
  | none => rfl
  | some a =>
    refine absurd ?_ h
    rw [← (mkW_spec e).1]
    exact kind_mem a
theorem mkW_len {a0 : Wr} {ns : List Int} (h : ns.length ≠ a0.rng.length) : mkW a0.kind ns = none := by
  cases e : mkW a0.kind ns with
  | none => rfl
  | some a =>
    refine absurd ?_ h
    obtain ⟨e1, e2, _⟩ := mkW_spec e
    rw [← e2, nums_len, rng_rlen, rng_rlen, e1]
theorem len_two {ns : List Int} (h : ns.length = 2) : ∃ m c, ns = [m, c] := by
  match ns, h with
  | [m, c], _ => exact ⟨m, c, rfl⟩
theorem fault_mk {a0 : Wr} {ns : List Int} (h : ns.length = a0.rng.length) : (faultV a0 ns = .non ∧ ∃ a, mkW a0.kind ns = some a) ∨ (faultV a0 ns ≠ .non ∧ mkW a0.kind ns = none) := by
  cases a0 with
  | plus c0 =>
    obtain ⟨c, rfl⟩ : ∃ c, ns = [c] := List.length_eq_one_iff.mp h
    by_cases k : 0 ≤ c ∧ c ≤ 1000
    · exact .inl ⟨fault_ok (a := .plus c) k, _, mkW_ok (a := .plus c) k⟩
    · refine .inr ⟨?_, if_neg k⟩
      unfold faultV
      rw [show faultL (Wr.plus c0).rng [c] 0 = some 0 from if_neg k]
      exact fun z => by cases z
  | told c0 =>
    obtain ⟨c, rfl⟩ : ∃ c, ns = [c] := List.length_eq_one_iff.mp h
    by_cases k : 0 ≤ c ∧ c ≤ 1000
    · exact .inl ⟨fault_ok (a := .told c) k, _, mkW_ok (a := .told c) k⟩
    · refine .inr ⟨?_, if_neg k⟩
      unfold faultV
      rw [show faultL (Wr.told c0).rng [c] 0 = some 0 from if_neg k]
      exact fun z => by cases z
  | whole c0 =>
    obtain ⟨c, rfl⟩ : ∃ c, ns = [c] := List.length_eq_one_iff.mp h
    by_cases k : 0 ≤ c ∧ c ≤ 1000
    · exact .inl ⟨fault_ok (a := .whole c) k, _, mkW_ok (a := .whole c) k⟩
    · refine .inr ⟨?_, if_neg k⟩
      unfold faultV
      rw [show faultL (Wr.whole c0).rng [c] 0 = some 0 from if_neg k]
      exact fun z => by cases z
  | filled c0 =>
    obtain ⟨c, rfl⟩ : ∃ c, ns = [c] := List.length_eq_one_iff.mp h
    by_cases k : 1 ≤ c ∧ c ≤ 60
    · exact .inl ⟨fault_ok (a := .filled c) k, _, mkW_ok (a := .filled c) k⟩
    · refine .inr ⟨?_, if_neg k⟩
      unfold faultV
      rw [show faultL (Wr.filled c0).rng [c] 0 = some 0 from if_neg k]
      exact fun z => by cases z
  | pieces m0 c0 =>
    obtain ⟨m, c, rfl⟩ : ∃ m c, ns = [m, c] := len_two h
    by_cases k : 1 ≤ m ∧ m ≤ 60 ∧ 0 ≤ c ∧ c ≤ 60
    · exact .inl ⟨fault_ok (a := .pieces m c) k, _, mkW_ok (a := .pieces m c) k⟩
    · refine .inr ⟨?_, if_neg k⟩
      unfold faultV
      rw [show faultL (Wr.pieces m0 c0).rng [m, c] 0 = if 1 ≤ m ∧ m ≤ 60 then (if 0 ≤ c ∧ c ≤ 60 then none else some 1) else some 0 from rfl]
      by_cases km : 1 ≤ m ∧ m ≤ 60
      · rw [if_pos km]
        by_cases kc : 0 ≤ c ∧ c ≤ 60
        · exact absurd ⟨km.1, km.2, kc⟩ k
        · rw [if_neg kc]
          exact fun z => by cases z
      · rw [if_neg km]
        exact fun z => by cases z
  | cut m0 c0 =>
    obtain ⟨m, c, rfl⟩ : ∃ m c, ns = [m, c] := len_two h
    by_cases k : 1 ≤ m ∧ m ≤ 60 ∧ 0 ≤ c ∧ c ≤ 60
    · exact .inl ⟨fault_ok (a := .cut m c) k, _, mkW_ok (a := .cut m c) k⟩
    · refine .inr ⟨?_, if_neg k⟩
      unfold faultV
      rw [show faultL (Wr.cut m0 c0).rng [m, c] 0 = if 1 ≤ m ∧ m ≤ 60 then (if 0 ≤ c ∧ c ≤ 60 then none else some 1) else some 0 from rfl]
      by_cases km : 1 ≤ m ∧ m ≤ 60
      · rw [if_pos km]
        by_cases kc : 0 ≤ c ∧ c ≤ 60
        · exact absurd ⟨km.1, km.2, kc⟩ k
        · rw [if_neg kc]
          exact fun z => by cases z
      · rw [if_neg km]
        exact fun z => by cases z
  | coded m0 c0 =>
    obtain ⟨m, c, rfl⟩ : ∃ m c, ns = [m, c] := len_two h
    by_cases k : 1 ≤ m ∧ m ≤ 60 ∧ m ≤ c ∧ c ≤ 120
    · exact .inl ⟨fault_ok (a := .coded m c) k, _, mkW_ok (a := .coded m c) k⟩
    · refine .inr ⟨?_, if_neg k⟩
      unfold faultV
      rw [show faultL (Wr.coded m0 c0).rng [m, c] 0 = if 1 ≤ m ∧ m ≤ 60 then (if 1 ≤ c ∧ c ≤ 120 then none else some 1) else some 0 from rfl]
      by_cases km : 1 ≤ m ∧ m ≤ 60
      · rw [if_pos km]
        by_cases kc : 1 ≤ c ∧ c ≤ 120
        · rw [if_pos kc]
          show (if (Wr.coded m0 c0).kind = "coded" ∧ c < m then V.int 1 else .non) ≠ .non
          rw [if_pos ⟨rfl, by omega⟩]
          exact fun z => by cases z
        · rw [if_neg kc]
          exact fun z => by cases z
      · rw [if_neg km]
        exact fun z => by cases z
def rdW (t : Str) : Option Wr := match Txt.split t " " with
  | kd :: ws => mkW kd (ws.map numV)
  | [] => none
def spWrapIn (K : PySem.W.Frag) : Sp := fun vs H Q _ => ∃ t : Str, vs = [.str t] ∧ t.length ≤ 1000 ∧ (∀ H', Same H H' → rdW t = none → Q .non H') ∧ ∀ a q H', rdW t = some a → H q = none → Same H H' → WrapAt K H' q a → Q (.ref q) H'
section
variable {P : Program} {w : World} {K : PySem.W.Frag} {mg : Str → Option Value} {base : Heap}
theorem ok_wrap_in (T : Tx w K mg) : Prom P w K mg base CX0 6 "wrap_in" s_wrap_in ["text"] (spWrapIn K) := by
  refine Prom.of T.d_wrap_in sc_wrap_in (fun vs H Q E h => ?_) (fun _ _ _ _ _ _ us hl => match us, hl with | [_], _ => rfl) (fun f cdv A outer s H vs Q E hr h => ?_)
  · obtain ⟨z, rfl, _⟩ := h
    rfl
  · obtain ⟨z, rfl, hz, k0, k⟩ := h
    obtain ⟨es, en, kd⟩ := T.kd
    refine ⟨_, (pss_cons (ps_set (i := 1) sc_wrap_in.nd rfl (Or.inl rfl) (pe_split (pv 0) pe_str))
      (pss_cons (ps_par (i := 2) (j := 3) (by rfl) sc_wrap_in.nd rfl rfl (by decide) rfl rfl (pa_cons (pe_ix ix_list (pv 1) pe_int (fun _ _ => rfl)) (pa_cons (pe_lc (own := [("word", 4)]) (g := (gName 4)) (tt := tYes) (by rfl) sc_wrap_in.nd (pi_list (pe_slice sl_list (pv 1) (po_some pe_int) po_none)) (blkOk_by (own := [("word", 4)]) (N := ["text", "words", "kind", "numbers", "word"]) (sc := defScope s_wrap_in) (by decide +kernel)) (fun _ _ _ _ _ => (pg_name (i := 4) sc_wrap_in.nd rfl (Or.inl rfl))) (fun _ _ _ _ _ => pts_nil) (fun _ _ _ _ _ => (pe_callP (ok_amount_of T) (hr.mono (by decide)) (by rfl) pass0 (pa_cons (pv 4) pa_nil)))) pa_nil)) (by rfl))
      (pss_cons (ps_if (PW.pt (pw_or (pt_cmpR (op_notIn_kd kd) (pv 2) (pe_glob (v := .ref _) (by rfl) T.k_RANGES rfl) (by rfl)) (pw_or (pt_cmp (pc_neI (pe_callB call_len_seq (by rfl) T.b_len (by decide +kernel) (pa_cons (pv 3) pa_nil)) (pe_callB call_len_seq (by rfl) T.b_len (by decide +kernel) (pa_cons (pe_ix ix_kdict (pe_glob (v := .ref _) (by rfl) T.k_RANGES rfl) (pv 2) (fun _ _ => rfl)) pa_nil)))) (pw_or1 (pt_cmpR op_notN (pe_callP (ok_fault_in T) (hr.mono (by decide)) (by rfl) pass0 (pa_cons (pv 2) (pa_cons (pv 3) pa_nil))) pe_non (nomark _)))))) (pss_one (ps_ret pe_non)) pss_nil)
      (pss_one (ps_ret (pe_newS (ok_Wrap T) (hr.mono (by decide)) (by rfl) pass0 (pa_cons (pv 2) (StX.pa_star (pv 3) pa_nil)))))))), ?_⟩
    obtain ⟨kw, ws, es1⟩ : ∃ kw ws, Txt.split z " " = kw :: ws := by
      match e : Txt.split z " " with
      | k :: ws => exact ⟨k, ws, rfl⟩
      | [] =>
        have := split_pos z " "
        rw [e] at this
        simp at this
    have short : ∀ y ∈ ws, y.length ≤ 1000 := fun y hy => Nat.le_trans (part_short (x := z) (y := " ") (by rw [es1]; exact .tail _ hy)) hz
    have er : rdW z = mkW kw (ws.map numV) := by
      unfold rdW
      rw [es1]
    have hws : ws.length ≤ 1002 := by
      have := split_le z " "
      rw [es1, List.length_cons] at this
      omega
    refine ⟨_, rfl, ⟨_, rfl⟩, _, _, rfl, rfl, by decide +kernel, Nat.le_trans (Nat.add_le_add_right hz 2) (by decide), fun l hl => ?_⟩
    rw [es1]
    refine ⟨_, rfl, l, _, _, _, rfl, rfl, SqL.of upd_same, at_of (j := 0) rfl rfl, ?_⟩
    refine ⟨_, rfl, _, rfl, l, _, rfl, SqL.of upd_same, fun q hq => ?_⟩
    have ecut : cutV ((kw :: ws).map V.str) (some 1) none = ws.map V.str := by
      have e : HT.sIx ((kw :: ws).map V.str).length 0 (some 1) = min 1 ((kw :: ws).map V.str).length := HT.sIx_nat _ 0 1
      unfold cutV
      rw [e, HT.sIx_none, List.length_map, List.length_cons, Nat.min_eq_left (by omega)]
      show (ws.map V.str).take (ws.length + 1 - 1) = ws.map V.str
      rw [Nat.add_sub_cancel, List.take_of_length_le (by rw [List.length_map]; omega)]
    rw [ecut]
    have s1 : Same H (upd H l (.lst ((kw :: ws).map V.str))) := up hl
    have s2 := up (o := .lst (ws.map V.str)) hq
    refine ⟨q, rfl, ⟨_, SqL.of upd_same⟩, fun D hD => ?_⟩
    have sD := up (o := .lst []) hD
    obtain ⟨H0, e0⟩ : ∃ H0, H0 = upd (upd H l (.lst ((kw :: ws).map V.str))) q (.lst (ws.map V.str)) := ⟨_, rfl⟩
    rw [← e0] at hD sD ⊢
    have s0 : Same H H0 := by
      rw [e0]
      exact fun a o e => s2 _ _ (s1 _ _ e)
    have gq : H0 q = some (.lst (ws.map V.str)) := by
      rw [e0]
      exact upd_same
    refine lc_list (K := K) (a := q) (xs := ws.map V.str) (Pv := fun j H' => Same H0 H' ∧ H' D = some (.lst (((ws.take j).map numV).map V.int))) ⟨sD, upd_same⟩ (fun j H' _ h => SqL.of (h.1 _ _ gq)) ?_ ?_
    · rintro j x H1 hj ⟨hs, hd⟩
      obtain ⟨y, hy, rfl⟩ : ∃ y, ws[j]? = some y ∧ x = V.str y := by
        rw [List.getElem?_map] at hj
        cases e : ws[j]? with
        | none =>
          rw [e] at hj
          cases hj
        | some n =>
          rw [e] at hj
          exact ⟨n, rfl, (Option.some.inj hj).symm⟩
      have hjl : j < ws.length := by
        rcases List.getElem?_eq_some_iff.mp hy with ⟨z, _⟩
        exact z
      refine ⟨rfl, _, rfl, y, rfl, Nat.le_trans (short y (List.mem_of_getElem? hy)) (by decide), _, hd, ?_, fun y o e => ?_, ?_⟩
      · rw [List.length_map, List.length_map, List.length_take, sizeLine_eq]
        omega
      · rw [upd_ne (ne_of_none e hD)]
        exact hs _ _ e
      · rw [upd_same, List.take_succ, hy, List.map_append, List.map_append]
        rfl
    rintro H1 ⟨hs, hd⟩
    rw [List.length_map, List.take_length] at hd
    have sH : Same H H1 := fun a o e => hs _ _ (s0 _ _ e)
    clear hD sD e0 s2 ecut hq hl s1
    obtain ⟨ns, ens⟩ : ∃ ns, ns = ws.map numV := ⟨_, rfl⟩
    rw [← ens] at hd er
    refine ⟨_, _, rfl, ?_⟩
    refine st_eq [some (.str z), some (.ref l), some (.str kw), some (.ref D), none] rfl ?_
    by_cases hk : kw ∈ kinds7
    · obtain ⟨a0, rfl⟩ := kinds_rep hk
      obtain ⟨b, xs, hb, hq', hp⟩ := T.rg a0
      refine ⟨_, rfl, _, some (.ref b), rfl, rfl, hb, _, rfl, iteF ?_⟩
      refine ⟨_, rfl, D, _, rfl, .inl (SqL.of hd), _, rfl, _, _, .ref b, rfl, rfl, ⟨es, en, _, kd.at_, kd.lit, hb, rfl⟩, b, xs, rfl, .inr (hq' _), _, _, rfl, rfl, ?_⟩
      have nil : rdW z = none → Q .non H1 := k0 _ sH
      refine ⟨_, rfl, ifn (fun c => ?_) (fun c => ?_)⟩
      · have c : ¬ ((ns.map V.int).length : Int) = (xs.length : Int) := c
        refine iteT (nil ?_)
        rw [er]
        refine mkW_len fun e => c ?_
        rw [List.length_map, hp.len, e]
      · have c : ((ns.map V.int).length : Int) = (xs.length : Int) := c
        have el : ns.length = a0.rng.length := by
          rw [List.length_map, hp.len] at c
          omega
        refine ⟨_, rfl, _, rfl, a0, ns, D, rfl, .inl (SqL.of hd), el, fun H2 s2 => ?_⟩
        have sH2 : Same H H2 := fun a o e => s2 _ _ (sH _ _ e)
        refine ⟨rfl, _, rfl, ?_⟩
        rcases fault_mk el with ⟨e, a, ea⟩ | ⟨e, en⟩
        · refine ifn (fun x => absurd e x) (fun _ => ?_)
          obtain ⟨e1, e2, ok⟩ := mkW_spec ea
          refine ⟨_, rfl, _, rfl, D, _, rfl, .inr (SqL.of (s2 _ _ hd)), a, ?_, ok, fun q3 H3 n3 s3 w3 => ?_⟩
          · show V.str a0.kind :: (ns.map V.int ++ []) = _
            rw [e1, e2, List.append_nil]
          · refine k a q3 H3 (by rw [er]; exact ea) ?_ (fun x o e => s3 _ _ (sH2 _ _ e)) w3
            cases e3 : H q3 with
            | none => rfl
            | some o =>
              rw [sH2 _ _ e3] at n3
              cases n3
        · refine ifn (fun _ => ?_) (fun x => absurd x e)
          exact k0 _ sH2 (by rw [er]; exact en)
    · refine ⟨_, rfl, _, none, rfl, rfl, T.rn kw hk, _, rfl, iteT ?_⟩
      refine iteT (k0 _ sH ?_)
      rw [er]
      exact mkW_out hk _
end
/-! ### a wrap is not None -/
def NW (K : PySem.W.Frag) : Addr → Hp → Prop := fun a H => ∃ x, WrapAt K H a x
theorem NW.mon {K : PySem.W.Frag} : ∀ a H H', Ext H H' → NW K a H → NW K a H' := fun a H H' e ⟨x, h⟩ => ⟨x, h.same e⟩
section
variable {P : Program} {w : World} {K : PySem.W.Frag} {mg : Str → Option Value} {base : Heap}
theorem ok_Wrap_eqN (T : Tx w K mg) : PromM P w K mg base CX0 1 "Wrap" "__eq__" ["self", "other"] (spEqN (NW K)) := by
  refine PromM.of T.cl_Wrap T.me_Wrap___eq__ T.dm_Wrap___eq__ sc_Wrap___eq__ (fun vs H Q E h => ?_) (fun _ _ _ _ _ _ us hl => match us, hl with | [_, _], _ => rfl) (fun f cdv A outer s H vs Q E hr h => ?_)
  · obtain ⟨a, rfl, _⟩ := h
    rfl
  · obtain ⟨a, rfl, ⟨x, dx, p, h1, h2⟩, k⟩ := h
    refine ⟨_, (pss_one (ps_ret (pe_and (pe_callB call_isi (by rfl) T.b_isinstance (by decide +kernel) (pa_cons (pv 1) (pa_cons (pe_glob (v := .ref _) (by rfl) T.k_Wrap rfl) pa_nil))) (pe_and (pe_cmpR op_eq (pe_fld (pv 0) rfl) (pe_fld (pv 1) rfl) (nomark _)) (pe_one (pe_cmpR (op_eqD hr.units) (pe_fld (pv 0) rfl) (pe_fld (pv 1) rfl) (nomark _))))))), ?_⟩
    refine ⟨_, rfl, _, _, _, _, false, rfl, .own _, .base .non, T.kt.bt "NoneType" (by decide) "Wrap" (by decide), false, rfl, iteF ?_⟩
    exact k _ Ext.rfl'
end
/-! ### the stack that a text tells -/
def rdS (t : Str) : Option (Int × List Wr) := match Txt.split t "\n" with
  | [] => none
  | r0 :: rows =>
    let pt := Txt.partition r0 " "
    if pt.1 = "base" ∧ 2 ≤ numV pt.2.2 ∧ numV pt.2.2 ≤ 256 ∧ rows.length ≤ 6 then
      match rows.mapM rdW with
      | some ws => if fineL ws ≤ 120 then some (numV pt.2.2, ws) else none
      | none => none
    else none
/-- what is read of each row -/
inductive RdsAt (K : PySem.W.Frag) (H : Hp) : List V → List (Option Wr) → Prop where
  | nil : RdsAt K H [] []
  | non {xs : List V} {ws : List (Option Wr)} (r : RdsAt K H xs ws) : RdsAt K H (.non :: xs) (none :: ws)
  | ref {a : Addr} {x : Wr} {xs : List V} {ws : List (Option Wr)} (h : WrapAt K H a x) (r : RdsAt K H xs ws) : RdsAt K H (.ref a :: xs) (some x :: ws)
theorem RdsAt.len {K : PySem.W.Frag} {H : Hp} {xs : List V} {ws : List (Option Wr)} (h : RdsAt K H xs ws) : xs.length = ws.length := by
  induction h with
  | nil => rfl
  | non _ ih => exact congrArg (· + 1) ih
  | ref _ _ ih => exact congrArg (· + 1) ih
theorem RdsAt.same {K : PySem.W.Frag} {H H' : Hp} {xs : List V} {ws : List (Option Wr)} (h : RdsAt K H xs ws) (s : Same H H') : RdsAt K H' xs ws := by
  induction h with
  | nil => exact .nil
  | non _ ih => exact .non ih
  | ref h _ ih => exact .ref (h.same s) ih
theorem RdsAt.snocN {K : PySem.W.Frag} {H : Hp} {xs : List V} {ws : List (Option Wr)} (h : RdsAt K H xs ws) : RdsAt K H (xs ++ [.non]) (ws ++ [none]) := by
  induction h with
  | nil => exact .non .nil
  | non _ ih => exact .non ih
  | ref h _ ih => exact .ref h ih
theorem RdsAt.snocR {K : PySem.W.Frag} {H : Hp} {xs : List V} {ws : List (Option Wr)} {a : Addr} {x : Wr} (h : RdsAt K H xs ws) (hx : WrapAt K H a x) : RdsAt K H (xs ++ [.ref a]) (ws ++ [some x]) := by
  induction h with
  | nil => exact .ref hx .nil
  | non _ ih => exact .non ih
  | ref h _ ih => exact .ref h ih
theorem RdsAt.upd {K : PySem.W.Frag} {H : Hp} {D : Addr} {zs : List V} {o : HO} (g : H D = some (.lst zs)) {xs : List V} {ws : List (Option Wr)} (h : RdsAt K H xs ws) : RdsAt K (L2.upd H D o) xs ws := by
  induction h with
  | nil => exact .nil
  | non _ ih => exact .non ih
  | ref h _ ih =>
    obtain ⟨dx, p, h1, h2⟩ := h
    refine .ref ⟨dx, p, ?_, ?_⟩ ih
    · rw [upd_ne (fun e => by rw [e, g] at h1; cases h1)]
      exact h1
    · rw [upd_ne (fun e => by rw [e, g] at h2; cases h2)]
      exact h2
theorem RdsAt.each {K : PySem.W.Frag} {H : Hp} {xs : List V} {ws : List (Option Wr)} (h : RdsAt K H xs ws) : ∀ z ∈ xs, z = .non ∨ ∃ a dx fs, z = .ref a ∧ H a = some (.ins (He.ga K "Wrap") dx fs) ∧ NW K a H := by
  induction h with
  | nil => exact fun z h => by cases h
  | non _ ih =>
    intro z hz
    rcases List.mem_cons.mp hz with rfl | hz
    · exact .inl rfl
    · exact ih z hz
  | ref h _ ih =>
    intro z hz
    rcases List.mem_cons.mp hz with rfl | hz
    · have h0 := h
      obtain ⟨dx, p, h1, h2⟩ := h
      exact .inr ⟨_, dx, _, rfl, h1, _, h0⟩
    · exact ih z hz
theorem RdsAt.all {K : PySem.W.Frag} {H : Hp} : ∀ {xs : List V} {ts : List Str}, RdsAt K H xs (ts.map rdW) → xs.any isNon = false → ∃ ws, ts.mapM rdW = some ws ∧ WrapsAt K H xs ws
  | [], [], _, _ => ⟨[], rfl, .nil⟩
  | _ :: _, [], h, _ => by cases h
  | [], _ :: _, h, _ => by cases h
  | x :: xs, t :: ts, h, e => by
    rw [List.any_cons, Bool.or_eq_false_iff] at e
    rw [List.map_cons] at h
    generalize ew : rdW t = o at h
    cases h with
    | non r => cases e.1
    | ref hx r =>
      obtain ⟨ws, e1, e2⟩ := RdsAt.all r e.2
      refine ⟨_ :: ws, ?_, .cons hx e2⟩
      rw [List.mapM_cons, ew, e1]
      rfl
theorem RdsAt.some_none {K : PySem.W.Frag} {H : Hp} : ∀ {xs : List V} {ts : List Str}, RdsAt K H xs (ts.map rdW) → xs.any isNon = true → ts.mapM rdW = none
  | [], _, _, e => by cases e
  | _ :: _, [], h, _ => by cases h
  | x :: xs, t :: ts, h, e => by
    rw [List.any_cons, Bool.or_eq_true] at e
    rw [List.map_cons] at h
    generalize ew : rdW t = o at h
    cases h with
    | non r =>
      rw [List.mapM_cons, ew]
      rfl
    | ref hx r =>
      rcases e with e | e
      · cases e
      rw [List.mapM_cons, ew, RdsAt.some_none r e]
      rfl
theorem rd_ok {t : Str} {a : Wr} (h : rdW t = some a) : a.ok := by
  unfold rdW at h
  split at h
  · exact (mkW_spec h).2.2
  · cases h
theorem rds_ok : ∀ {ts : List Str} {ws : List Wr}, ts.mapM rdW = some ws → (∀ a ∈ ws, a.ok) ∧ ws.length = ts.length
  | [], ws, h => by
    cases h
    exact ⟨fun _ h => (by cases h), rfl⟩
  | t :: ts, ws, h => by
    rw [List.mapM_cons] at h
    cases e : rdW t with
    | none =>
      rw [e] at h
      cases h
    | some a =>
      cases e2 : ts.mapM rdW with
      | none =>
        rw [e, e2] at h
        cases h
      | some us =>
        rw [e, e2] at h
        cases h
        obtain ⟨h1, h2⟩ := rds_ok e2
        refine ⟨fun b hb => ?_, congrArg (· + 1) h2⟩
        rcases List.mem_cons.mp hb with rfl | hb
        · exact rd_ok e
        · exact h1 b hb
theorem part_len3 (x y : Str) : (Txt.partition x y).2.2.length ≤ x.length := by
  rcases partition_whole x y with ⟨e, _⟩ | ⟨i, e, _⟩
  · rw [e]
    exact Nat.zero_le _
  · rw [TL.len_tl (Txt.partition x y).2.2, e]
    dsimp only
    rw [TL.tl_strSub_end, List.length_drop, TL.len_tl x]
    exact Nat.sub_le _ _
def spStackIn (K : PySem.W.Frag) : Sp := fun vs H Q _ => ∃ t : Str, vs = [.str t] ∧ t.length ≤ 1000 ∧ (∀ H', Same H H' → rdS t = none → Q .non H') ∧ ∀ b ws q H', rdS t = some (b, ws) → StkOk b ws → H q = none → Same H H' → StkAt K H' q b ws → Q (.ref q) H'
section
variable {P : Program} {w : World} {K : PySem.W.Frag} {mg : Str → Option Value} {base : Heap}
theorem ok_stack_in (T : Tx w K mg) : Prom P w K mg base CX0 8 "stack_in" s_stack_in ["text"] (spStackIn K) := by
  refine Prom.of T.d_stack_in sc_stack_in (fun vs H Q E h => ?_) (fun _ _ _ _ _ _ us hl => match us, hl with | [_], _ => rfl) (fun f cdv A outer s H vs Q E hr h => ?_)
  · obtain ⟨z, rfl, _⟩ := h
    rfl
  · obtain ⟨z, rfl, hz, k0, k⟩ := h
    refine ⟨_, (pss_cons (ps_set (i := 1) sc_stack_in.nd rfl (Or.inl rfl) (pe_split (pv 0) pe_str))
      (pss_cons (ps_asg (pe_partition (pe_ix ix_list (pv 1) pe_int (fun _ _ => rfl)) pe_str) (pg_tup rfl (pgs_cons (pg_name (i := 2) sc_stack_in.nd rfl (Or.inl rfl)) (pgs_cons (pg_name (i := 3) sc_stack_in.nd rfl (Or.inl rfl)) (pgs_cons (pg_name (i := 4) sc_stack_in.nd rfl (Or.inl rfl)) pgs_nil)))))
      (pss_cons (ps_par (i := 5) (j := 6) (by rfl) sc_stack_in.nd rfl rfl (by decide) rfl rfl (pa_cons (pe_callP (ok_amount_of T) (hr.mono (by decide)) (by rfl) pass0 (pa_cons (pv 4) pa_nil)) (pa_cons (pe_lc (own := [("row", 7)]) (g := (gName 7)) (tt := tYes) (by rfl) sc_stack_in.nd (pi_list (pe_slice sl_list (pv 1) (po_some pe_int) po_none)) (blkOk_by (own := [("row", 7)]) (N := ["text", "rows", "word", "gap", "rest", "base", "wraps", "row"]) (sc := defScope s_stack_in) (by decide +kernel)) (fun _ _ _ _ _ => (pg_name (i := 7) sc_stack_in.nd rfl (Or.inl rfl))) (fun _ _ _ _ _ => pts_nil) (fun _ _ _ _ _ => (pe_callP (ok_wrap_in T) (hr.mono (by decide)) (by rfl) pass0 (pa_cons (pv 7) pa_nil)))) pa_nil)) (by rfl))
      (pss_cons (ps_if (PW.pt (pw_or (pt_cmpR op_ne (pv 2) pe_str (nomark _)) (pw_or (pt_not (pt_val (pe_callP (ok_is_between T) (hr.mono (by decide)) (by rfl) pass0 (pa_cons (pv 5) (pa_cons pe_int (pa_cons pe_int pa_nil)))))) (pw_or1 (pt_cmp (pc_gt (pe_callB call_len_seq (by rfl) T.b_len (by decide +kernel) (pa_cons (pv 6) pa_nil)) (pe_gint T.c_MOST_WRAPS))))))) (pss_one (ps_ret pe_non)) pss_nil)
      (pss_cons (ps_if (PW.pt (pw_or (pt_cmpR (op_inN (ok_Wrap_eqN T) NW.mon (hr.mono (by decide)) pass0) pe_non (pv 6) (by rfl)) (pw_or1 (pt_cmp (pc_gt (pe_callP (ok_fineness_of T) (hr.mono (by decide)) (by rfl) pass0 (pa_cons (pv 6) pa_nil)) (pe_gint T.c_MOST_FINENESS)))))) (pss_one (ps_ret pe_non)) pss_nil)
      (pss_one (ps_ret (pe_newS (ok_Stack T) (hr.mono (by decide)) (by rfl) pass0 (pa_cons (pv 5) (StX.pa_star (pv 6) pa_nil)))))))))), ?_⟩
    obtain ⟨r0, rs, es1⟩ : ∃ r0 rs, Txt.split z "\n" = r0 :: rs := by
      match e : Txt.split z "\n" with
      | k :: ws => exact ⟨k, ws, rfl⟩
      | [] =>
        have := split_pos z "\n"
        rw [e] at this
        simp at this
    have short : ∀ y ∈ r0 :: rs, y.length ≤ 1000 := fun y hy => Nat.le_trans (part_short (x := z) (y := "\n") (by rw [es1]; exact hy)) hz
    have hrs : rs.length ≤ 1002 := by
      have := split_le z "\n"
      rw [es1, List.length_cons] at this
      omega
    refine ⟨_, rfl, ⟨_, rfl⟩, _, _, rfl, rfl, by decide +kernel, Nat.le_trans (Nat.add_le_add_right hz 2) (by decide), fun l hl => ?_⟩
    rw [es1]
    have s1 : Same H (upd H l (.lst ((r0 :: rs).map V.str))) := up hl
    refine ⟨_, rfl, l, _, _, _, rfl, rfl, SqL.of upd_same, at_of (j := 0) rfl rfl, ⟨_, rfl⟩, _, _, rfl, rfl, by decide +kernel, Nat.le_trans (short r0 (.head _)) (by decide), fun p hp => ?_⟩
    obtain ⟨pt, ept⟩ : ∃ pt, pt = Txt.partition r0 " " := ⟨_, rfl⟩
    refine ⟨p, _, rfl, SqT.of upd_same, rfl, ?_⟩
    refine ⟨_, _, rfl, _, _, rfl, _, _, rfl, rfl, ?_⟩
    have pl : pt.2.2.length ≤ 2000 := by
      rw [ept]
      exact Nat.le_trans (part_len3 r0 " ") (Nat.le_trans (short r0 (.head _)) (by decide))
    refine st_eq [some (.str z), some (.ref l), some (.str pt.1), some (.str pt.2.1), some (.str pt.2.2), none, none, none] (by rw [ept]; rfl) ?_
    have s2 := fun (o : HO) => up (o := o) hp
    refine ⟨_, rfl, _, rfl, pl, ?_⟩
    refine ⟨_, rfl, _, rfl, l, _, rfl, SqL.of (s2 _ _ _ upd_same), fun q hq => ?_⟩
    have ecut : cutV ((r0 :: rs).map V.str) (some 1) none = rs.map V.str := by
      have e : HT.sIx ((r0 :: rs).map V.str).length 0 (some 1) = min 1 ((r0 :: rs).map V.str).length := HT.sIx_nat _ 0 1
      unfold cutV
      rw [e, HT.sIx_none, List.length_map, List.length_cons, Nat.min_eq_left (by omega)]
      show (rs.map V.str).take (rs.length + 1 - 1) = rs.map V.str
      rw [Nat.add_sub_cancel, List.take_of_length_le (by rw [List.length_map]; omega)]
    rw [ecut]
    have s3 := up (o := .lst (rs.map V.str)) hq
    refine ⟨q, rfl, ⟨_, SqL.of upd_same⟩, fun D hD => ?_⟩
    have sD := up (o := .lst []) hD
    refine lc_list (K := K) (a := q) (xs := rs.map V.str) (Pv := fun j H' => Same H H' ∧ H' q = some (.lst (rs.map V.str)) ∧ ∃ zs, H' D = some (.lst zs) ∧ RdsAt K H' zs ((rs.take j).map rdW)) ⟨fun a o e => sD _ _ (s3 _ _ (s2 _ _ _ (s1 _ _ e))), sD _ _ upd_same, [], upd_same, .nil⟩ (fun j H' _ h => SqL.of h.2.1) ?_ ?_
    · rintro j x H1 hj ⟨hs, gq, zs, gD, hr⟩
      obtain ⟨y, hy, rfl⟩ : ∃ y, rs[j]? = some y ∧ x = V.str y := by
        rw [List.getElem?_map] at hj
        cases e : rs[j]? with
        | none =>
          rw [e] at hj
          cases hj
        | some n =>
          rw [e] at hj
          exact ⟨n, rfl, (Option.some.inj hj).symm⟩
      have hjl : j < rs.length := by
        rcases List.getElem?_eq_some_iff.mp hy with ⟨z, _⟩
        exact z
      have zl : zs.length < sizeLine := by
        rw [hr.len, List.length_map, List.length_take, sizeLine_eq]
        omega
      have et : (rs.take (j + 1)).map rdW = (rs.take j).map rdW ++ [rdW y] := by
        rw [List.take_succ, hy, List.map_append]
        rfl
      have nD : ∀ {a : Addr} {o : HO}, H a = some o → a ≠ D := fun e => ne_of_none (s3 _ _ (s2 _ _ _ (s1 _ _ e))) hD
      have nq : q ≠ D := ne_of_none upd_same hD
      refine ⟨rfl, _, rfl, y, rfl, short y (.tail _ (List.mem_of_getElem? hy)), fun H2 s4 en => ?_, fun a q2 H2 ea n2 s4 wa => ?_⟩
      · refine ⟨zs, s4 _ _ gD, zl, fun b o e => ?_, ?_, _, upd_same, ?_⟩
        · rw [upd_ne (nD e)]
          exact s4 _ _ (hs _ _ e)
        · rw [upd_ne nq]
          exact s4 _ _ gq
        · rw [et, en]
          exact RdsAt.upd (s4 _ _ gD) (hr.same s4).snocN
      · refine ⟨zs, s4 _ _ gD, zl, fun b o e => ?_, ?_, _, upd_same, ?_⟩
        · rw [upd_ne (nD e)]
          exact s4 _ _ (hs _ _ e)
        · rw [upd_ne nq]
          exact s4 _ _ gq
        · rw [et, ea]
          exact RdsAt.upd (s4 _ _ gD) ((hr.same s4).snocR wa)
    · rintro H1 ⟨hs, gq, zs, gD, hr⟩
      rw [List.length_map, List.take_length] at hr
      have er : rdS z = if pt.1 = "base" ∧ 2 ≤ numV pt.2.2 ∧ numV pt.2.2 ≤ 256 ∧ rs.length ≤ 6 then (match rs.mapM rdW with | some ws => if fineL ws ≤ 120 then some (numV pt.2.2, ws) else none | none => none) else none := by
        unfold rdS
        rw [es1, ept]
      refine ⟨_, _, rfl, ?_⟩
      refine st_eq [some (.str z), some (.ref l), some (.str pt.1), some (.str pt.2.1), some (.str pt.2.2), some (.int (numV pt.2.2)), some (.ref D), none] rfl ?_
      refine ⟨_, rfl, rfl, _, rfl, ifn (fun c => ?_) (fun c => ?_)⟩
      · refine k0 _ hs ?_
        rw [er, if_neg fun h => c (by rw [h.1])]
      have ew : pt.1 = "base" := by
        have c : V.str pt.1 = V.str "base" := c
        injection c
      refine ⟨_, rfl, _, _, _, rfl, _, rfl, ?_⟩
      refine ifn (fun c2 => ?_) (fun c2 => ?_)
      · refine k0 _ hs ?_
        rw [er, if_neg fun h => c2 ⟨h.2.1, h.2.2.1⟩]
      have zl : zs.length = rs.length := by rw [hr.len, List.length_map]
      refine ⟨_, rfl, D, _, rfl, .inl (SqL.of gD), _, _, rfl, rfl, _, rfl, ifd (fun c3 => ?_) (fun c3 => ?_)⟩
      · have c3 : (zs.length : Int) > 6 := c3
        refine k0 _ hs ?_
        rw [er, if_neg fun h => absurd h.2.2.2 (by omega)]
      have c3 : ¬ (zs.length : Int) > 6 := c3
      rw [if_pos ⟨ew, c2.1, c2.2, by omega⟩] at er
      refine ⟨_, rfl, D, zs, rfl, rfl, SqL.of gD, hr.each, fun H2 e2 => ?_⟩
      have s2H : Same H H2 := fun a o e => e2 _ _ (hs _ _ e)
      refine ⟨_, rfl, ?_⟩
      cases en : zs.any isNon with
      | true =>
        refine iteT (k0 _ s2H ?_)
        rw [er, RdsAt.some_none hr en]
      | false =>
        obtain ⟨ws, ews, hw⟩ := RdsAt.all hr en
        obtain ⟨wok, wl⟩ := rds_ok ews
        rw [ews] at er
        refine iteF ?_
        refine ⟨_, rfl, D, zs, ws, rfl, .inl (SqL.of (e2 _ _ gD)), hw.same e2, wok, fun H3 s3 => ?_⟩
        have s3H : Same H H3 := fun a o e => s3 _ _ (s2H _ _ e)
        refine ⟨_, _, rfl, rfl, _, rfl, ifd (fun c4 => ?_) (fun c4 => ?_)⟩
        · have c4 : fineL ws > 120 := c4
          refine k0 _ s3H ?_
          rw [er]
          exact if_neg (by omega)
        · have c4 : ¬ fineL ws > 120 := c4
          have er : rdS z = some (numV pt.2.2, ws) := er.trans (if_pos (by omega))
          have so : StkOk (numV pt.2.2) ws := ⟨c2.1, c2.2, wok, by omega, by omega⟩
          refine ⟨_, rfl, _, rfl, D, zs, rfl, .inr (SqL.of (s3 _ _ (e2 _ _ gD))), _, zs, ws, ?_, so, (hw.same e2).same s3, fun q3 H4 n4 s4 h4 => ?_⟩
          · show V.int (numV pt.2.2) :: (zs ++ []) = _
            rw [List.append_nil]
          · refine k _ ws q3 H4 er so ?_ (fun x o e => s4 _ _ (s3H _ _ e)) h4
            cases e3 : H q3 with
            | none => rfl
            | some o =>
              rw [s3H _ _ e3] at n4
              cases n4
end
set_option pp.maxSteps 900
/-! ### any thing -/
def tyD : PyData → String
  | .none => "NoneType"
  | .bool _ => "bool"
  | .int _ => "int"
  | .str _ => "str"
  | .list _ => "list"
  | .tuple _ => "tuple"
  | .dict _ => "dict"
theorem dp_ty {K : PySem.W.Frag} {H : Hp} {v : V} {d : PyData} (h : Dp K H v d) : TyX K H v (.type (tyD d)) := by
  cases h with
  | non => exact .base .non
  | bl b => exact .base (.bl b)
  | int i => exact .base (.int i)
  | str x => exact .base (.str x)
  | lst h _ =>
    rcases h with (h | ⟨o, h⟩) | ⟨o, _, _, h, c, _⟩
    · exact .base (.lst h)
    · exact .base (.frz h)
    · exact .kList h c
  | tup h _ =>
    rcases h with (h | ⟨o, h⟩) | ⟨o, _, _, h, c, _⟩
    · exact .base (.tup h)
    · exact .fTuple h
    · exact .kTuple h c
def isI : PyData → Bool
  | .int _ => true
  | _ => false
def inR (lo hi : Int) : PyData → Bool
  | .int i => decide (lo ≤ i ∧ i ≤ hi)
  | _ => false
def spIsIntX (K : PySem.W.Frag) : Sp := fun vs H Q _ => ∃ (v : V) (d : PyData), vs = [v] ∧ Dp K H v d ∧ Q (.bl (isI d)) H
def spBetweenX (K : PySem.W.Frag) : Sp := fun vs H Q _ => ∃ (v : V) (d : PyData) (l m : Int), vs = [v, .int l, .int m] ∧ Dp K H v d ∧ Q (.bl (inR l m d)) H
def spIsLenX (K : PySem.W.Frag) : Sp := fun vs H Q _ => ∃ (v : V) (d : PyData), vs = [v] ∧ Dp K H v d ∧ Q (.bl (inR 0 (10 ^ 60 - 1) d)) H
section
variable {P : Program} {w : World} {K : PySem.W.Frag} {mg : Str → Option Value} {base : Heap}
theorem ok_is_integerX (T : Tx w K mg) : Prom P w K mg base CX0 1 "is_integer" s_is_integer ["value"] (spIsIntX K) := by
  refine Prom.of T.d_is_integer sc_is_integer (fun vs H Q E h => ?_) (fun _ _ _ _ _ _ us hl => match us, hl with | [_], _ => rfl) (fun f cdv A outer s H vs Q E hr h => ?_)
  · obtain ⟨v, d, rfl, _⟩ := h
    rfl
  · obtain ⟨v, d, rfl, hd, k⟩ := h
    refine ⟨_, (pss_one (ps_ret (pe_and (pe_callB call_isi (by rfl) T.b_isinstance (by decide +kernel) (pa_cons (pv 0) (pa_cons (pe_bltn (v := .ty "int") (by rfl) T.b_int (by decide +kernel) rfl) pa_nil))) (pe_and (pe_cmpR op_isnotBl (pv 0) pe_bl (nomark _)) (pe_one (pe_cmpR op_isnotBl (pv 0) pe_bl (nomark _))))))), ?_⟩
    cases hd with
    | int i =>
      refine ⟨_, rfl, _, _, _, _, true, rfl, .ty _, .base (.int _), kit_ty (by decide +kernel), true, rfl, iteT ?_⟩
      refine ⟨_, rfl, _, rfl, true, rfl, iteT ?_⟩
      exact ⟨_, rfl, _, rfl, k⟩
    | bl b =>
      refine ⟨_, rfl, _, _, _, _, true, rfl, .ty _, .base (.bl _), kit_ty (by decide +kernel), true, rfl, iteT ?_⟩
      cases b with
      | true => exact ⟨_, rfl, _, rfl, false, rfl, iteF k⟩
      | false =>
        refine ⟨_, rfl, _, rfl, true, rfl, iteT ?_⟩
        exact ⟨_, rfl, _, rfl, k⟩
    | non => exact ⟨_, rfl, _, _, _, _, false, rfl, .ty _, dp_ty .non, kit_ty (a := "NoneType") (by decide +kernel), false, rfl, iteF k⟩
    | str x => exact ⟨_, rfl, _, _, _, _, false, rfl, .ty _, dp_ty (.str x), kit_ty (a := "str") (by decide +kernel), false, rfl, iteF k⟩
    | lst h1 h2 => exact ⟨_, rfl, _, _, _, _, false, rfl, .ty _, dp_ty (.lst h1 h2), kit_ty (a := "list") (by decide +kernel), false, rfl, iteF k⟩
    | tup h1 h2 => exact ⟨_, rfl, _, _, _, _, false, rfl, .ty _, dp_ty (.tup h1 h2), kit_ty (a := "tuple") (by decide +kernel), false, rfl, iteF k⟩
theorem ok_is_betweenX (T : Tx w K mg) : Prom P w K mg base CX0 2 "is_between" s_is_between ["value", "least", "most"] (spBetweenX K) := by
  refine Prom.of T.d_is_between sc_is_between (fun vs H Q E h => ?_) (fun _ _ _ _ _ _ us hl => match us, hl with | [_, _, _], _ => rfl) (fun f cdv A outer s H vs Q E hr h => ?_)
  · obtain ⟨v, d, l, m, rfl, _⟩ := h
    rfl
  · obtain ⟨v, d, l, m, rfl, hd, k⟩ := h
    refine ⟨_, (pss_one (ps_ret (pe_and (pe_callP (ok_is_integerX T) (hr.mono (by decide)) (by rfl) pass0 (pa_cons (pv 0) pa_nil)) (pe_one (pe_chain op_le op_le (pv 1) (pv 0) (pv 2)))))), ?_⟩
    refine ⟨_, rfl, v, d, rfl, hd, isI d, rfl, ?_⟩
    cases hd with
    | int v =>
      refine iteT ?_
      refine ⟨_, rfl, _, rfl, _, _, rfl, rfl, _, rfl, ifd (fun h1 => ?_) (fun h1 => ?_)⟩
      · refine ⟨_, rfl, _, _, rfl, rfl, ?_⟩
        show Q (.bl (decide (v ≤ m))) H
        have e : decide (v ≤ m) = decide (l ≤ v ∧ v ≤ m) := by simp [h1]
        rw [e]
        exact k
      · show Q (.bl false) H
        have e : false = decide (l ≤ v ∧ v ≤ m) := by simp [h1]
        rw [e]
        exact k
    | bl b => exact iteF k
    | non => exact iteF k
    | str x => exact iteF k
    | lst h1 h2 => exact iteF k
    | tup h1 h2 => exact iteF k
theorem ok_is_lengthX (T : Tx w K mg) : Prom P w K mg base CX0 3 "is_length" s_is_length ["value"] (spIsLenX K) := by
  refine Prom.of T.d_is_length sc_is_length (fun vs H Q E h => ?_) (fun _ _ _ _ _ _ us hl => match us, hl with | [_], _ => rfl) (fun f cdv A outer s H vs Q E hr h => ?_)
  · obtain ⟨v, d, rfl, _⟩ := h
    rfl
  · obtain ⟨v, d, rfl, hd, k⟩ := h
    refine ⟨_, (pss_one (ps_ret (pe_callP (ok_is_betweenX T) (hr.mono (by decide)) (by rfl) pass0 (pa_cons (pv 0) (pa_cons pe_int (pa_cons (pe_gint T.c_LAST_LENGTH) pa_nil)))))), ?_⟩
    exact ⟨_, rfl, v, d, _, _, rfl, hd, k⟩
end
/-! ### the stack whose text a thing is -/
def TextOk (d : PyData) : Prop := ∀ s, d = .str s → s.length ≤ 1000
def rdT : PyData → Option (Int × List Wr)
  | .str s => rdS s
  | _ => none
def ToldAt (K : PySem.W.Frag) (H : Hp) (v : V) (o : Option (Int × List Wr)) : Prop := (o = none ∧ v = .non) ∨ ∃ q b ws, o = some (b, ws) ∧ v = .ref q ∧ StkAt K H q b ws ∧ StkOk b ws
theorem ToldAt.same {K : PySem.W.Frag} {H H' : Hp} {v : V} {o : Option (Int × List Wr)} (s : Same H H') (h : ToldAt K H v o) : ToldAt K H' v o := by
  rcases h with h | ⟨q, b, ws, h1, h2, h3, h4⟩
  · exact .inl h
  · exact .inr ⟨q, b, ws, h1, h2, h3.same s, h4⟩
def spTold (K : PySem.W.Frag) : Sp := fun vs H Q _ => ∃ (v : V) (d : PyData), vs = [v] ∧ Dp K H v d ∧ TextOk d ∧ ∀ v H', Same H H' → ToldAt K H' v (rdT d) → Q v H'
section
variable {P : Program} {w : World} {K : PySem.W.Frag} {mg : Str → Option Value} {base : Heap}
theorem ok_stack_told (T : Tx w K mg) : Prom P w K mg base CX0 9 "stack_told" s_stack_told ["value"] (spTold K) := by
  refine Prom.of T.d_stack_told sc_stack_told (fun vs H Q E h => ?_) (fun _ _ _ _ _ _ us hl => match us, hl with | [_], _ => rfl) (fun f cdv A outer s H vs Q E hr h => ?_)
  · obtain ⟨v, d, rfl, _⟩ := h
    rfl
  · obtain ⟨v, d, rfl, hd, ht, kk⟩ := h
    have k0 : ∀ H', Same H H' → rdT d = none → Q .non H' := fun H' s e => kk .non H' s (.inl ⟨e, rfl⟩)
    have k : ∀ b ws q H', rdT d = some (b, ws) → StkOk b ws → H q = none → Same H H' → StkAt K H' q b ws → Q (.ref q) H' := fun b ws q H' e so _ s sa => kk _ _ s (.inr ⟨q, b, ws, e, rfl, sa, so⟩)
    refine ⟨_, (pss_one (ps_ret (pe_ifExp (pt_val (pe_callB call_isi (by rfl) T.b_isinstance (by decide +kernel) (pa_cons (pv 0) (pa_cons (pe_bltn (v := .ty "str") (by rfl) T.b_str (by decide +kernel) rfl) pa_nil)))) (pe_callP (ok_stack_in T) (hr.mono (by decide)) (by rfl) pass0 (pa_cons (pv 0) pa_nil)) pe_non))), ?_⟩
    cases hd with
    | int i => exact ⟨_, rfl, _, _, _, _, false, rfl, .ty _, dp_ty (.int i), kit_ty (a := "int") (by decide +kernel), false, rfl, iteF (k0 _ (Same.refl H) rfl)⟩
    | bl i => exact ⟨_, rfl, _, _, _, _, false, rfl, .ty _, dp_ty (.bl i), kit_ty (a := "bool") (by decide +kernel), false, rfl, iteF (k0 _ (Same.refl H) rfl)⟩
    | non => exact ⟨_, rfl, _, _, _, _, false, rfl, .ty _, dp_ty .non, kit_ty (a := "NoneType") (by decide +kernel), false, rfl, iteF (k0 _ (Same.refl H) rfl)⟩
    | lst h1 h2 => exact ⟨_, rfl, _, _, _, _, false, rfl, .ty _, dp_ty (.lst h1 h2), kit_ty (a := "list") (by decide +kernel), false, rfl, iteF (k0 _ (Same.refl H) rfl)⟩
    | tup h1 h2 => exact ⟨_, rfl, _, _, _, _, false, rfl, .ty _, dp_ty (.tup h1 h2), kit_ty (a := "tuple") (by decide +kernel), false, rfl, iteF (k0 _ (Same.refl H) rfl)⟩
    | str x =>
      refine ⟨_, rfl, _, _, _, _, true, rfl, .ty _, dp_ty (.str x), kit_ty (a := "str") (by decide +kernel), true, rfl, iteT ?_⟩
      exact ⟨_, rfl, x, rfl, ht x rfl, k0, k⟩
end
/-! ### things as data (from c_are) -/
theorem DpAll.len {K : PySem.W.Frag} {H : Hp} : ∀ {xs : List V} {ds : List PyData}, DpAll K H xs ds → xs.length = ds.length
  | _, _, .nil => rfl
  | _, _, .cons _ h => congrArg (· + 1) (DpAll.len h)
theorem sqL_same {K : PySem.W.Frag} {H H' : Hp} {a : Addr} {xs : List V} (s : Same H H') (h : SqL K H a xs) : SqL K H' a xs := by
  rcases h with (h | ⟨o, h⟩) | h
  · exact .inl (.inl (s _ _ h))
  · exact .inl (.inr ⟨o, s _ _ h⟩)
  · exact .inr h
theorem sqT_same {K : PySem.W.Frag} {H H' : Hp} {a : Addr} {xs : List V} (s : Same H H') (h : SqT K H a xs) : SqT K H' a xs := by
  rcases h with (h | ⟨o, h⟩) | h
  · exact .inl (.inl (s _ _ h))
  · exact .inl (.inr ⟨o, s _ _ h⟩)
  · exact .inr h
theorem DpAll.get {K : PySem.W.Frag} {H : Hp} : ∀ {xs : List V} {ds : List PyData}, DpAll K H xs ds → ∀ {i : Nat} {x : V}, xs[i]? = some x → ∃ d, ds[i]? = some d ∧ Dp K H x d
  | _, _, .nil, i, x, e => by simp at e
  | _, _, .cons h g, 0, x, e => by
    simp at e
    subst e
    exact ⟨_, rfl, h⟩
  | _, _, .cons h g, i + 1, x, e => DpAll.get g (by simpa using e)
theorem all_isI : ∀ {ds : List PyData}, (ds.map isI).all id = true → ∃ ns : List Int, ds = ns.map PyData.int
  | [], _ => ⟨[], rfl⟩
  | d :: ds, h => by
    simp only [List.map_cons, List.all_cons, Bool.and_eq_true] at h
    obtain ⟨ns, e⟩ := all_isI h.2
    cases d with
    | int i => exact ⟨i :: ns, by rw [e]; rfl⟩
    | _ => exact absurd h.1 (by simp [isI])
theorem isI_all : ∀ (ns : List Int), ((ns.map PyData.int).map isI).all id = true
  | [] => rfl
  | n :: ns => by
    simp only [List.map_cons, List.all_cons, Bool.and_eq_true]
    exact ⟨rfl, isI_all ns⟩
theorem nb {A : Prop} (h : ¬ A) : false = true ↔ A := ⟨fun z => Bool.noConfusion z, fun z => absurd z h⟩
mutual
theorem Dp.same {K : PySem.W.Frag} {H H' : Hp} (s : Same H H') : ∀ {v : V} {d : PyData}, Dp K H v d → Dp K H' v d
  | _, _, .non => .non
  | _, _, .bl b => .bl b
  | _, _, .int i => .int i
  | _, _, .str x => .str x
  | _, _, .lst h g => .lst (sqL_same s h) (DpAll.same s g)
  | _, _, .tup h g => .tup (sqT_same s h) (DpAll.same s g)
theorem DpAll.same {K : PySem.W.Frag} {H H' : Hp} (s : Same H H') : ∀ {xs : List V} {ds : List PyData}, DpAll K H xs ds → DpAll K H' xs ds
  | _, _, .nil => .nil
  | _, _, .cons h g => .cons (Dp.same s h) (DpAll.same s g)
end
def spNone : Sp := fun _ _ _ _ => False
/-! ### small things -/
theorem DpAll.one {K : PySem.W.Frag} {H : Hp} {x : V} {xs : List V} {ds : List PyData} (h : DpAll K H (x :: xs) ds) : ∃ e es, ds = e :: es ∧ Dp K H x e ∧ DpAll K H xs es := by
  cases h with
  | cons a b => exact ⟨_, _, rfl, a, b⟩
theorem DpAll.zero {K : PySem.W.Frag} {H : Hp} {ds : List PyData} (h : DpAll K H [] ds) : ds = [] := by
  cases h
  rfl
theorem three {xs : List V} (c : (xs.length : Int) = 3) : ∃ x0 x1 x2, xs = [x0, x1, x2] := by
  have c : xs.length = 3 := by omega
  match xs, c with
  | [x0, x1, x2], _ => exact ⟨x0, x1, x2, rfl⟩
theorem two {xs : List V} (c : (xs.length : Int) = 2) : ∃ x0 x1, xs = [x0, x1] := by
  have c : xs.length = 2 := by omega
  match xs, c with
  | [x0, x1], _ => exact ⟨x0, x1, rfl⟩
theorem iteB {b : Bool} {A B : Prop} (h1 : b = false → A) (h2 : b = true → B) : if (!b) = true then A else B := by
  cases b with
  | false => exact h1 rfl
  | true => exact h2 rfl
theorem inR_no {l m i : Int} (h : inR l m (.int i) = false) : ¬ (l ≤ i ∧ i ≤ m) := of_decide_eq_false h
theorem four {xs : List V} (c : (xs.length : Int) = 4) : ∃ x0 x1 x2 x3, xs = [x0, x1, x2, x3] := by
  have c : xs.length = 4 := by omega
  match xs, c with
  | [x0, x1, x2, x3], _ => exact ⟨x0, x1, x2, x3, rfl⟩
/-! ### what isinstance says of any thing -/
def isStrD : PyData → Bool
  | .str _ => true
  | _ => false
def isTupD : PyData → Bool
  | .tuple _ => true
  | _ => false
def isIntD : PyData → Bool
  | .int _ => true
  | .bool _ => true
  | _ => false
def isBoolD : PyData → Bool
  | .bool _ => true
  | _ => false
theorem kit_strD {K : PySem.W.Frag} (d : PyData) : PySem.W.kitOne K (.type (tyD d)) (.type "str") = some (isStrD d) := by
  cases d with
  | none => exact (show PySem.W.kitOne K (.type "NoneType") (.type "str") = some false from kit_ty (by decide +kernel))
  | bool _ => exact (show PySem.W.kitOne K (.type "bool") (.type "str") = some false from kit_ty (by decide +kernel))
  | int _ => exact (show PySem.W.kitOne K (.type "int") (.type "str") = some false from kit_ty (by decide +kernel))
  | str _ => exact (show PySem.W.kitOne K (.type "str") (.type "str") = some true from kit_ty (by decide +kernel))
  | list _ => exact (show PySem.W.kitOne K (.type "list") (.type "str") = some false from kit_ty (by decide +kernel))
  | tuple _ => exact (show PySem.W.kitOne K (.type "tuple") (.type "str") = some false from kit_ty (by decide +kernel))
  | dict _ => exact (show PySem.W.kitOne K (.type "dict") (.type "str") = some false from kit_ty (by decide +kernel))
theorem kit_tupD {K : PySem.W.Frag} (d : PyData) : PySem.W.kitOne K (.type (tyD d)) (.type "tuple") = some (isTupD d) := by
  cases d with
  | none => exact (show PySem.W.kitOne K (.type "NoneType") (.type "tuple") = some false from kit_ty (by decide +kernel))
  | bool _ => exact (show PySem.W.kitOne K (.type "bool") (.type "tuple") = some false from kit_ty (by decide +kernel))
  | int _ => exact (show PySem.W.kitOne K (.type "int") (.type "tuple") = some false from kit_ty (by decide +kernel))
  | str _ => exact (show PySem.W.kitOne K (.type "str") (.type "tuple") = some false from kit_ty (by decide +kernel))
  | list _ => exact (show PySem.W.kitOne K (.type "list") (.type "tuple") = some false from kit_ty (by decide +kernel))
  | tuple _ => exact (show PySem.W.kitOne K (.type "tuple") (.type "tuple") = some true from kit_ty (by decide +kernel))
  | dict _ => exact (show PySem.W.kitOne K (.type "dict") (.type "tuple") = some false from kit_ty (by decide +kernel))
theorem kit_intD {K : PySem.W.Frag} (d : PyData) : PySem.W.kitOne K (.type (tyD d)) (.type "int") = some (isIntD d) := by
  cases d with
  | none => exact (show PySem.W.kitOne K (.type "NoneType") (.type "int") = some false from kit_ty (by decide +kernel))
  | bool _ => exact (show PySem.W.kitOne K (.type "bool") (.type "int") = some true from kit_ty (by decide +kernel))
  | int _ => exact (show PySem.W.kitOne K (.type "int") (.type "int") = some true from kit_ty (by decide +kernel))
  | str _ => exact (show PySem.W.kitOne K (.type "str") (.type "int") = some false from kit_ty (by decide +kernel))
  | list _ => exact (show PySem.W.kitOne K (.type "list") (.type "int") = some false from kit_ty (by decide +kernel))
  | tuple _ => exact (show PySem.W.kitOne K (.type "tuple") (.type "int") = some false from kit_ty (by decide +kernel))
  | dict _ => exact (show PySem.W.kitOne K (.type "dict") (.type "int") = some false from kit_ty (by decide +kernel))
theorem kit_boolD {K : PySem.W.Frag} (d : PyData) : PySem.W.kitOne K (.type (tyD d)) (.type "bool") = some (isBoolD d) := by
  cases d with
  | none => exact (show PySem.W.kitOne K (.type "NoneType") (.type "bool") = some false from kit_ty (by decide +kernel))
  | bool _ => exact (show PySem.W.kitOne K (.type "bool") (.type "bool") = some true from kit_ty (by decide +kernel))
  | int _ => exact (show PySem.W.kitOne K (.type "int") (.type "bool") = some false from kit_ty (by decide +kernel))
  | str _ => exact (show PySem.W.kitOne K (.type "str") (.type "bool") = some false from kit_ty (by decide +kernel))
  | list _ => exact (show PySem.W.kitOne K (.type "list") (.type "bool") = some false from kit_ty (by decide +kernel))
  | tuple _ => exact (show PySem.W.kitOne K (.type "tuple") (.type "bool") = some false from kit_ty (by decide +kernel))
  | dict _ => exact (show PySem.W.kitOne K (.type "dict") (.type "bool") = some false from kit_ty (by decide +kernel))
theorem strD_of {d : PyData} (h : isStrD d = true) : ∃ s, d = .str s := by
  cases d with
  | str s => exact ⟨s, rfl⟩
  | _ => cases h
theorem tupD_of {d : PyData} (h : isTupD d = true) : ∃ ds, d = .tuple ds := by
  cases d with
  | tuple ds => exact ⟨ds, rfl⟩
  | _ => cases h
theorem cut1 {x : V} {xs : List V} : cutV (x :: xs) (some 1) none = xs := by
  have e : HT.sIx (x :: xs).length 0 (some 1) = min 1 (xs.length + 1) := HT.sIx_nat _ 0 1
  unfold cutV
  rw [e, HT.sIx_none, List.length_cons, Nat.min_eq_left (by omega)]
  exact List.take_length
theorem cut1_no {x : V} {xs : List V} {k : Nat} : ¬ (HT.sIx (x :: xs).length 0 (some 1) = 0 ∧ k = (x :: xs).length) := fun z => by
  have z := z.1
  have e : HT.sIx (x :: xs).length 0 (some 1) = min 1 (xs.length + 1) := HT.sIx_nat _ 0 1
  omega
theorem in3 {x a b c : Str} : (if false = true then !inV (.str x) [.str a, .str b, .str c] else inV (.str x) [.str a, .str b, .str c]) = decide (x = a ∨ x = b ∨ x = c) := by
  show ((a == x) || ((b == x) || ((c == x) || false))) = _
  by_cases h1 : x = a
  · rw [h1]; simp
  by_cases h2 : x = b
  · rw [h2]; simp
  by_cases h3 : x = c
  · rw [h3]; simp
  rw [beq_eq_false_iff_ne.mpr (Ne.symm h1), beq_eq_false_iff_ne.mpr (Ne.symm h2), beq_eq_false_iff_ne.mpr (Ne.symm h3), decide_eq_false (by simp [h1, h2, h3])]
  rfl
theorem ifs {x a b c : Str} {A B : Prop} (h1 : x = a ∨ x = b ∨ x = c → A) (h2 : ¬ (x = a ∨ x = b ∨ x = c) → B) : if (if false = true then !inV (.str x) [.str a, .str b, .str c] else inV (.str x) [.str a, .str b, .str c]) = true then A else B := by
  rw [in3]
  exact ifd h1 h2
theorem ifs2 {x a b : Str} {A B : Prop} (h1 : x = a ∨ x = b → A) (h2 : ¬ (x = a ∨ x = b) → B) : if (if false = true then !inV (.str x) [.str a, .str b] else inV (.str x) [.str a, .str b]) = true then A else B := by
  have e : (if false = true then !inV (.str x) [.str a, .str b] else inV (.str x) [.str a, .str b]) = decide (x = a ∨ x = b) := by
    show ((a == x) || ((b == x) || false)) = _
    by_cases h1 : x = a
    · rw [h1]; simp
    by_cases h2 : x = b
    · rw [h2]; simp
    rw [beq_eq_false_iff_ne.mpr (Ne.symm h1), beq_eq_false_iff_ne.mpr (Ne.symm h2), decide_eq_false (by simp [h1, h2])]
    rfl
  rw [e]
  exact ifd h1 h2
theorem ifeq {x a : Str} {A B : Prop} (h1 : x = a → A) (h2 : x ≠ a → B) : if decide (V.str x = V.str a) = true then A else B := by
  by_cases h : x = a
  · rw [decide_eq_true (congrArg V.str h), if_pos rfl]
    exact h1 h
  · rw [decide_eq_false fun z => h (by cases z; rfl), if_neg Bool.false_ne_true]
    exact h2 h
theorem one_of {α β : Type} {f : α → β} {ns : List α} (h : ((ns.map f).length : Int) = 1) : ∃ c, ns = [c] := by
  rw [List.length_map] at h
  match ns, h with
  | [c], _ => exact ⟨c, rfl⟩
  | [], h => cases h
  | _ :: _ :: _, h => exact absurd h (by simp only [List.length_cons]; omega)
theorem two_of {α β : Type} {f : α → β} {ns : List α} (h : ((ns.map f).length : Int) = 2) : ∃ m c, ns = [m, c] := by
  rw [List.length_map] at h
  match ns, h with
  | [m, c], _ => exact ⟨m, c, rfl⟩
  | [], h => cases h
  | [_], h => cases h
  | _ :: _ :: _ :: _, h => exact absurd h (by simp only [List.length_cons]; omega)
theorem inR_int {l m : Int} {d : PyData} (h : inR l m d = true) : ∃ n, d = .int n ∧ l ≤ n ∧ n ≤ m := by
  cases d with
  | int n => exact ⟨n, rfl, of_decide_eq_true h⟩
  | _ => cases h
theorem isI_int {d : PyData} (h : isI d = true) : ∃ n, d = .int n := by
  cases d with
  | int n => exact ⟨n, rfl⟩
  | _ => cases h
theorem DpAll.oneR {K : PySem.W.Frag} {H : Hp} {xs : List V} {d : PyData} {ds : List PyData} (h : DpAll K H xs (d :: ds)) : ∃ x ys, xs = x :: ys ∧ Dp K H x d ∧ DpAll K H ys ds := by
  cases h with
  | cons a b => exact ⟨_, _, rfl, a, b⟩
/-! ### a tuple of so many integers -/
def spAreI (K : PySem.W.Frag) : Sp := fun vs H Q _ => ∃ (v : V) (d : PyData) (k : Nat), vs = [v, .int k] ∧ Dp K H v d ∧ k ≤ 10 ∧ ∀ r H', (r = true ↔ ∃ ns : List Int, d = .tuple (ns.map PyData.int) ∧ ns.length = k) → Same H H' → Q (.bl r) H'
section
variable {P : Program} {w : World} {K : PySem.W.Frag} {mg : Str → Option Value} {base : Heap}
theorem ok_are_integers (T : Tx w K mg) : Prom P w K mg base CX0 3 "are_integers" s_are_integers ["value", "count"] (spAreI K) := by
  refine Prom.of T.d_are_integers sc_are_integers (fun vs H Q E h => ?_) (fun _ _ _ _ _ _ us hl => match us, hl with | [_, _], _ => rfl) (fun f cdv A outer s H vs Q E hr h => ?_)
  · obtain ⟨v, d, n, rfl, _⟩ := h
    rfl
  · obtain ⟨v, d, n, rfl, hd, n10, k⟩ := h
    refine ⟨_, (pss_one (ps_ret (pe_and (pe_callB call_isi (by rfl) T.b_isinstance (by decide +kernel) (pa_cons (pv 0) (pa_cons (pe_bltn (v := .ty "tuple") (by rfl) T.b_tuple (by decide +kernel) rfl) pa_nil))) (pe_and (pe_cmp (pc_eqI (pe_callB call_len_seq (by rfl) T.b_len (by decide +kernel) (pa_cons (pv 0) pa_nil)) (pv 1))) (pe_one (pe_callB (cr_all rfl) (by rfl) T.b_all (by decide +kernel) (pa_cons (pe_lc (own := [("part", 2)]) (g := (gName 2)) (tt := tYes) (by rfl) sc_are_integers.nd (pi_tup (pv 0)) (blkOk_by (own := [("part", 2)]) (N := ["value", "count", "part"]) (sc := defScope s_are_integers) (by decide +kernel)) (fun _ _ _ _ _ => (pg_name (i := 2) sc_are_integers.nd rfl (Or.inl rfl))) (fun _ _ _ _ _ => pts_nil) (fun _ _ _ _ _ => (pe_callP (ok_is_integerX T) (hr.mono (by decide)) (by rfl) pass0 (pa_cons (pv 2) pa_nil)))) pa_nil))))))), ?_⟩
    have other : (∀ ds, d ≠ .tuple ds) → ¬ ∃ ns : List Int, d = .tuple (ns.map PyData.int) ∧ ns.length = n := fun h ⟨ns, e, _⟩ => h _ e
    cases hd with
    | tup h1 h2 =>
      rename_i a xs ds
      have xl := DpAll.len h2
      refine ⟨_, rfl, _, _, _, _, true, rfl, .ty _, dp_ty (.tup h1 h2), kit_ty (a := "tuple") (by decide +kernel), true, rfl, iteT ?_⟩
      refine ⟨_, rfl, a, xs, rfl, .inr h1, _, rfl, _, _, rfl, rfl, _, rfl, ifd (fun c => ?_) (fun c => ?_)⟩
      · have c : (xs.length : Int) = (n : Int) := c
        refine ⟨_, rfl, a, rfl, ⟨_, h1⟩, fun D hD => ?_⟩
        refine lc_tup (K := K) (a := a) (xs := xs) (Pv := fun j H' => Same H H' ∧ H' D = some (.lst (((ds.take j).map isI).map V.bl))) ⟨up hD, upd_same⟩ (fun j H' _ h => sqT_same h.1 h1) ?_ ?_
        · rintro j x H1 hj ⟨hs, hd⟩
          obtain ⟨e, he, hx⟩ := DpAll.get h2 hj
          refine ⟨rfl, _, rfl, x, e, rfl, Dp.same hs hx, _, hd, ?_, fun y o e => ?_, ?_⟩
          · rw [List.length_map, List.length_map, List.length_take, sizeLine_eq]
            omega
          · rw [upd_ne (ne_of_none e hD)]
            exact hs _ _ e
          · rw [upd_same, List.take_succ, he, List.map_append, List.map_append]
            rfl
        rintro H1 ⟨hs, hd⟩
        rw [xl, List.take_length] at hd
        refine ⟨D, ds.map isI, rfl, SqL.of hd, k _ _ ⟨fun z => ?_, fun ⟨ns, e, e2⟩ => ?_⟩ hs⟩
        · obtain ⟨ns, e⟩ := all_isI z
          refine ⟨ns, by rw [e], ?_⟩
          rw [e, List.length_map] at xl
          omega
        · cases e
          exact isI_all ns
      · refine k _ _ (nb fun ⟨ns, e, e2⟩ => c ?_) (Same.refl H)
        cases e
        show (xs.length : Int) = (n : Int)
        rw [xl, List.length_map, e2]
    | int i => exact ⟨_, rfl, _, _, _, _, false, rfl, .ty _, dp_ty (.int i), kit_ty (a := "int") (by decide +kernel), false, rfl, iteF (k _ _ (nb (other fun _ z => by cases z)) (Same.refl H))⟩
    | bl i => exact ⟨_, rfl, _, _, _, _, false, rfl, .ty _, dp_ty (.bl i), kit_ty (a := "bool") (by decide +kernel), false, rfl, iteF (k _ _ (nb (other fun _ z => by cases z)) (Same.refl H))⟩
    | non => exact ⟨_, rfl, _, _, _, _, false, rfl, .ty _, dp_ty .non, kit_ty (a := "NoneType") (by decide +kernel), false, rfl, iteF (k _ _ (nb (other fun _ z => by cases z)) (Same.refl H))⟩
    | str x => exact ⟨_, rfl, _, _, _, _, false, rfl, .ty _, dp_ty (.str x), kit_ty (a := "str") (by decide +kernel), false, rfl, iteF (k _ _ (nb (other fun _ z => by cases z)) (Same.refl H))⟩
    | lst h1 h2 => exact ⟨_, rfl, _, _, _, _, false, rfl, .ty _, dp_ty (.lst h1 h2), kit_ty (a := "list") (by decide +kernel), false, rfl, iteF (k _ _ (nb (other fun _ z => by cases z)) (Same.refl H))⟩
end
/-! ### a length and the next one, on both sides of a bound -/
def PayP (ds : List PyData) (e : PyData) : Prop := ∃ (t : PyData) (bd n b : Int) (ws : List Wr), ds = [t, .int bd, .int n] ∧ 0 ≤ bd ∧ bd ≤ 10 ^ 60 - 1 ∧ 0 ≤ n ∧ n ≤ 10 ^ 60 - 1 ∧ rdT t = some (b, ws) ∧ grS b ws n ≤ bd ∧
  ((n = 10 ^ 60 - 1 ∧ e = .tuple [.int (grS b ws n)]) ∨ (n ≠ 10 ^ 60 - 1 ∧ e = .tuple [.int (grS b ws n), .int (grS b ws (n + 1))] ∧ bd < grS b ws (n + 1)))
theorem eqv_two {x y g h : Int} : PyData.eqv (.tuple [.int x, .int y]) (.tuple [.int g, .int h]) = decide (x = g ∧ y = h) := by
  by_cases h1 : x = g
  · by_cases h2 : y = h
    · rw [h1, h2, decide_eq_true ⟨rfl, rfl⟩]
      simp [PyData.eqv, PyData.eqvAll]
    · rw [decide_eq_false fun z => h2 z.2]
      simp [PyData.eqv, PyData.eqvAll, h2]
  · rw [decide_eq_false fun z => h1 z.1]
    simp [PyData.eqv, PyData.eqvAll, h1]
def spPay (K : PySem.W.Frag) : Sp := fun vs H Q _ => ∃ (a : Addr) (u : V) (xs : List V) (ds : List PyData) (e : PyData), vs = [.ref a, u] ∧ SqT K H a xs ∧ DpAll K H xs ds ∧ Dp K H u e ∧ (∀ d ∈ ds, TextOk d) ∧ ∀ r H', (r = true ↔ PayP ds e) → Same H H' → Q (.bl r) H'
section
variable {P : Program} {w : World} {K : PySem.W.Frag} {mg : Str → Option Value} {base : Heap}
theorem ok_shows_payload (T : Tx w K mg) : Prom P w K mg base CX0 10 "shows_payload" s_shows_payload ["rest", "paper"] (spPay K) := by
  refine Prom.of T.d_shows_payload sc_shows_payload (fun vs H Q E h => ?_) (fun _ _ _ _ _ _ us hl => match us, hl with | [_, _], _ => rfl) (fun f cdv A outer s H vs Q E hr h => ?_)
  · obtain ⟨a, u, xs, ds, e, rfl, _⟩ := h
    rfl
  · obtain ⟨a, u, xs, ds, e, rfl, hS, hD, he, ht, k⟩ := h
    refine ⟨_, (pss_cons (ps_if (PW.pt (pw_or (pt_cmp (pc_neI (pe_callB call_len_seq (by rfl) T.b_len (by decide +kernel) (pa_cons (pv 0) pa_nil)) pe_int)) (pw_or (pt_not (pt_val (pe_callP (ok_is_lengthX T) (hr.mono (by decide)) (by rfl) pass0 (pa_cons (pe_ix ix_tup (pv 0) pe_int (fun _ _ => rfl)) pa_nil)))) (pw_or1 (pt_not (pt_val (pe_callP (ok_is_lengthX T) (hr.mono (by decide)) (by rfl) pass0 (pa_cons (pe_ix ix_tup (pv 0) pe_int (fun _ _ => rfl)) pa_nil)))))))) (pss_one (ps_ret pe_bl)) pss_nil)
      (pss_cons (ps_par3 (i := 2) (j := 3) (l := 4) (by rfl) sc_shows_payload.nd rfl rfl rfl (by decide) (by decide) (by decide) rfl rfl rfl (pa_cons (pe_callP (ok_stack_told T) (hr.mono (by decide)) (by rfl) pass0 (pa_cons (pe_ix ix_tup (pv 0) pe_int (fun _ _ => rfl)) pa_nil)) (pa_cons (pe_ix ix_tup (pv 0) pe_int (fun _ _ => rfl)) (pa_cons (pe_ix ix_tup (pv 0) pe_int (fun _ _ => rfl)) pa_nil))) (by rfl))
      (pss_cons (ps_if (PW.pt (pw_or (pt_cmpR op_isN (pv 2) pe_non (nomark _)) (pw_or1 (pt_cmp (pc_gt (pe_methP (ok_Stack_grown T) (hr.mono (by decide)) pass0 (pv 2) (pa_cons (pv 4) pa_nil)) (pv 3)))))) (pss_one (ps_ret pe_bl)) pss_nil)
      (pss_cons (ps_if (pt_cmp (pc_eqI (pv 4) (pe_gint T.c_LAST_LENGTH))) (pss_one (ps_ret (pe_and (pe_callP (ok_are_integers T) (hr.mono (by decide)) (by rfl) pass0 (pa_cons (pv 1) (pa_cons pe_int pa_nil))) (pe_one (pe_cmp (pc_eqI (pe_ix ix_tup (pv 1) pe_int (fun _ _ => rfl)) (pe_methP (ok_Stack_grown T) (hr.mono (by decide)) pass0 (pv 2) (pa_cons (pv 4) pa_nil)))))))) pss_nil)
      (pss_cons (ps_if (PW.pt (pw_or (pt_not (pt_val (pe_callP (ok_are_integers T) (hr.mono (by decide)) (by rfl) pass0 (pa_cons (pv 1) (pa_cons pe_int pa_nil))))) (pw_or1 (pt_cmpR (op_neD hr.units) (pv 1) (pe_tup (pa_cons (pe_methP (ok_Stack_grown T) (hr.mono (by decide)) pass0 (pv 2) (pa_cons (pv 4) pa_nil)) (pa_cons (pe_methP (ok_Stack_grown T) (hr.mono (by decide)) pass0 (pv 2) (pa_cons (pe_op op_add (pv 4) pe_int) pa_nil)) pa_nil))) (nomark _))))) (pss_one (ps_ret pe_bl)) pss_nil)
      (pss_one (ps_ret (pe_cmp (pc_lt (pv 3) (pe_ix ix_tup (pv 1) pe_int (fun _ _ => rfl))))))))))), ?_⟩
    have fin : ∀ H', Same H H' → ¬ PayP ds e → Q (.bl false) H' := fun H' s n => k _ _ (nb n) s
    have xl := DpAll.len hD
    repeat (first | (refine And.intro ?_ ?_; · (first | exact rfl | (show (_ : Int) ≤ _; omega) | (show (_ : Int) < _; omega) | assumption | exact SqL.of upd_same | exact SqT.of upd_same | exact upd_same | exact Drew.at_ (by assumption) | exact at_of (j := 0) rfl rfl | exact at_of (j := 1) rfl rfl | exact at_of (j := 2) rfl rfl | exact at_of (j := 3) rfl rfl | exact .inr (by assumption) | exact .inl (by assumption) | exact .ty _ | exact dp_ty (by assumption) | exact kit_strD _ | exact kit_tupD _ | exact kit_intD _ | exact kit_boolD _ | exact ⟨_, rfl⟩ | decide | omega | exact (show 0 ≤ sizeLine by decide) | exact (show 1 ≤ sizeLine by decide) | exact (show 2 ≤ sizeLine by decide) | exact (show 3 ≤ sizeLine by decide) | exact (show 4 ≤ sizeLine by decide) | exact (show 5 ≤ sizeLine by decide) | exact (show 6 ≤ sizeLine by decide) | decide +kernel)) | apply Exists.intro | refine iteT ?_ | refine iteF ?_)
    refine ifn (fun c => ?_) (fun c => ?_)
    · have c : ¬ (xs.length : Int) = 3 := c
      repeat (first | (refine And.intro ?_ ?_; · (first | exact rfl | (show (_ : Int) ≤ _; omega) | (show (_ : Int) < _; omega) | assumption | exact SqL.of upd_same | exact SqT.of upd_same | exact upd_same | exact Drew.at_ (by assumption) | exact at_of (j := 0) rfl rfl | exact at_of (j := 1) rfl rfl | exact at_of (j := 2) rfl rfl | exact at_of (j := 3) rfl rfl | exact .inr (by assumption) | exact .inl (by assumption) | exact .ty _ | exact dp_ty (by assumption) | exact kit_strD _ | exact kit_tupD _ | exact kit_intD _ | exact kit_boolD _ | exact ⟨_, rfl⟩ | decide | omega | exact (show 0 ≤ sizeLine by decide) | exact (show 1 ≤ sizeLine by decide) | exact (show 2 ≤ sizeLine by decide) | exact (show 3 ≤ sizeLine by decide) | exact (show 4 ≤ sizeLine by decide) | exact (show 5 ≤ sizeLine by decide) | exact (show 6 ≤ sizeLine by decide) | decide +kernel)) | apply Exists.intro | refine iteT ?_ | refine iteF ?_)
      refine fin _ (Same.refl H) fun ⟨t, bd, n, b, ws, h, _⟩ => c ?_
      rw [xl, h]
      rfl
    obtain ⟨x0, x1, x2, rfl⟩ := three c
    obtain ⟨d0, es, rfl, hx0, hD⟩ := DpAll.one hD
    obtain ⟨d1, es, rfl, hx1, hD⟩ := DpAll.one hD
    obtain ⟨d2, es, rfl, hx2, hD⟩ := DpAll.one hD
    obtain rfl := DpAll.zero hD
    clear xl c hD
    repeat (first | (refine And.intro ?_ ?_; · (first | exact rfl | (show (_ : Int) ≤ _; omega) | (show (_ : Int) < _; omega) | assumption | exact SqL.of upd_same | exact SqT.of upd_same | exact upd_same | exact Drew.at_ (by assumption) | exact at_of (j := 0) rfl rfl | exact at_of (j := 1) rfl rfl | exact at_of (j := 2) rfl rfl | exact at_of (j := 3) rfl rfl | exact .inr (by assumption) | exact .inl (by assumption) | exact .ty _ | exact dp_ty (by assumption) | exact kit_strD _ | exact kit_tupD _ | exact kit_intD _ | exact kit_boolD _ | exact ⟨_, rfl⟩ | decide | omega | exact (show 0 ≤ sizeLine by decide) | exact (show 1 ≤ sizeLine by decide) | exact (show 2 ≤ sizeLine by decide) | exact (show 3 ≤ sizeLine by decide) | exact (show 4 ≤ sizeLine by decide) | exact (show 5 ≤ sizeLine by decide) | exact (show 6 ≤ sizeLine by decide) | decide +kernel)) | apply Exists.intro | refine iteT ?_ | refine iteF ?_)
    refine iteB (fun c1 => ?_) (fun c1 => ?_)
    · repeat (first | (refine And.intro ?_ ?_; · (first | exact rfl | (show (_ : Int) ≤ _; omega) | (show (_ : Int) < _; omega) | assumption | exact SqL.of upd_same | exact SqT.of upd_same | exact upd_same | exact Drew.at_ (by assumption) | exact at_of (j := 0) rfl rfl | exact at_of (j := 1) rfl rfl | exact at_of (j := 2) rfl rfl | exact at_of (j := 3) rfl rfl | exact .inr (by assumption) | exact .inl (by assumption) | exact .ty _ | exact dp_ty (by assumption) | exact kit_strD _ | exact kit_tupD _ | exact kit_intD _ | exact kit_boolD _ | exact ⟨_, rfl⟩ | decide | omega | exact (show 0 ≤ sizeLine by decide) | exact (show 1 ≤ sizeLine by decide) | exact (show 2 ≤ sizeLine by decide) | exact (show 3 ≤ sizeLine by decide) | exact (show 4 ≤ sizeLine by decide) | exact (show 5 ≤ sizeLine by decide) | exact (show 6 ≤ sizeLine by decide) | decide +kernel)) | apply Exists.intro | refine iteT ?_ | refine iteF ?_)
      refine fin _ (Same.refl H) fun ⟨t, bd, n, b, ws, h, h0, h1, _⟩ => ?_
      cases h
      exact inR_no c1 ⟨h0, h1⟩
    obtain ⟨bd, rfl, b0, b1⟩ := inR_int c1
    cases hx1
    repeat (first | (refine And.intro ?_ ?_; · (first | exact rfl | (show (_ : Int) ≤ _; omega) | (show (_ : Int) < _; omega) | assumption | exact SqL.of upd_same | exact SqT.of upd_same | exact upd_same | exact Drew.at_ (by assumption) | exact at_of (j := 0) rfl rfl | exact at_of (j := 1) rfl rfl | exact at_of (j := 2) rfl rfl | exact at_of (j := 3) rfl rfl | exact .inr (by assumption) | exact .inl (by assumption) | exact .ty _ | exact dp_ty (by assumption) | exact kit_strD _ | exact kit_tupD _ | exact kit_intD _ | exact kit_boolD _ | exact ⟨_, rfl⟩ | decide | omega | exact (show 0 ≤ sizeLine by decide) | exact (show 1 ≤ sizeLine by decide) | exact (show 2 ≤ sizeLine by decide) | exact (show 3 ≤ sizeLine by decide) | exact (show 4 ≤ sizeLine by decide) | exact (show 5 ≤ sizeLine by decide) | exact (show 6 ≤ sizeLine by decide) | decide +kernel)) | apply Exists.intro | refine iteT ?_ | refine iteF ?_)
    refine iteB (fun c2 => ?_) (fun c2 => ?_)
    · repeat (first | (refine And.intro ?_ ?_; · (first | exact rfl | (show (_ : Int) ≤ _; omega) | (show (_ : Int) < _; omega) | assumption | exact SqL.of upd_same | exact SqT.of upd_same | exact upd_same | exact Drew.at_ (by assumption) | exact at_of (j := 0) rfl rfl | exact at_of (j := 1) rfl rfl | exact at_of (j := 2) rfl rfl | exact at_of (j := 3) rfl rfl | exact .inr (by assumption) | exact .inl (by assumption) | exact .ty _ | exact dp_ty (by assumption) | exact kit_strD _ | exact kit_tupD _ | exact kit_intD _ | exact kit_boolD _ | exact ⟨_, rfl⟩ | decide | omega | exact (show 0 ≤ sizeLine by decide) | exact (show 1 ≤ sizeLine by decide) | exact (show 2 ≤ sizeLine by decide) | exact (show 3 ≤ sizeLine by decide) | exact (show 4 ≤ sizeLine by decide) | exact (show 5 ≤ sizeLine by decide) | exact (show 6 ≤ sizeLine by decide) | decide +kernel)) | apply Exists.intro | refine iteT ?_ | refine iteF ?_)
      refine fin _ (Same.refl H) fun ⟨t, bd, n, b, ws, h, h0, h1, h2, h3, _⟩ => ?_
      cases h
      exact inR_no c2 ⟨h2, h3⟩
    obtain ⟨n, rfl, n0, n1⟩ := inR_int c2
    cases hx2
    have t0 := ht _ (.head _)
    repeat (first | (refine And.intro ?_ ?_; · (first | exact rfl | (show (_ : Int) ≤ _; omega) | (show (_ : Int) < _; omega) | assumption | exact SqL.of upd_same | exact SqT.of upd_same | exact upd_same | exact Drew.at_ (by assumption) | exact at_of (j := 0) rfl rfl | exact at_of (j := 1) rfl rfl | exact at_of (j := 2) rfl rfl | exact at_of (j := 3) rfl rfl | exact .inr (by assumption) | exact .inl (by assumption) | exact .ty _ | exact dp_ty (by assumption) | exact kit_strD _ | exact kit_tupD _ | exact kit_intD _ | exact kit_boolD _ | exact ⟨_, rfl⟩ | decide | omega | exact (show 0 ≤ sizeLine by decide) | exact (show 1 ≤ sizeLine by decide) | exact (show 2 ≤ sizeLine by decide) | exact (show 3 ≤ sizeLine by decide) | exact (show 4 ≤ sizeLine by decide) | exact (show 5 ≤ sizeLine by decide) | exact (show 6 ≤ sizeLine by decide) | decide +kernel)) | apply Exists.intro | refine iteT ?_ | refine iteF ?_)
    intro v1 H1 s1 t1
    have hS1 := sqT_same s1 hS
    rcases t1 with ⟨en, rfl⟩ | ⟨q, b, ws, es, rfl, sa, so⟩
    · repeat (first | (refine And.intro ?_ ?_; · (first | exact rfl | (show (_ : Int) ≤ _; omega) | (show (_ : Int) < _; omega) | assumption | exact SqL.of upd_same | exact SqT.of upd_same | exact upd_same | exact Drew.at_ (by assumption) | exact at_of (j := 0) rfl rfl | exact at_of (j := 1) rfl rfl | exact at_of (j := 2) rfl rfl | exact at_of (j := 3) rfl rfl | exact .inr (by assumption) | exact .inl (by assumption) | exact .ty _ | exact dp_ty (by assumption) | exact kit_strD _ | exact kit_tupD _ | exact kit_intD _ | exact kit_boolD _ | exact ⟨_, rfl⟩ | decide | omega | exact (show 0 ≤ sizeLine by decide) | exact (show 1 ≤ sizeLine by decide) | exact (show 2 ≤ sizeLine by decide) | exact (show 3 ≤ sizeLine by decide) | exact (show 4 ≤ sizeLine by decide) | exact (show 5 ≤ sizeLine by decide) | exact (show 6 ≤ sizeLine by decide) | decide +kernel)) | apply Exists.intro | refine iteT ?_ | refine iteF ?_)
      refine fin _ s1 fun ⟨t, bd, n, b, ws, h, h0, h1, h2, h3, h4, _⟩ => ?_
      cases h
      rw [en] at h4
      cases h4
    obtain ⟨dx, tt, us, hq, _⟩ := id sa
    have n2 : n < 10 ^ 60 := Int.lt_of_le_of_lt n1 (by decide)
    have key : ∀ {Z : Prop}, (∀ b' ws', rdT d0 = some (b', ws') → b' = b ∧ ws' = ws) → ((grS b ws n ≤ bd ∧ ((n = 10 ^ 60 - 1 ∧ e = .tuple [.int (grS b ws n)]) ∨ (n ≠ 10 ^ 60 - 1 ∧ e = .tuple [.int (grS b ws n), .int (grS b ws (n + 1))] ∧ bd < grS b ws (n + 1)))) ↔ Z) → (PayP [d0, .int bd, .int n] e ↔ Z) := fun {Z} u h => by
      rw [← h]
      refine ⟨fun ⟨t, bd', n', b', ws', z, _, _, _, _, h4, h5⟩ => ?_, fun h5 => ⟨d0, bd, n, b, ws, rfl, b0, b1, n0, n1, es, h5⟩⟩
      cases z
      obtain ⟨rfl, rfl⟩ := u _ _ h4
      exact h5
    have key := fun {Z : Prop} => key (Z := Z) (fun b' ws' h => by rw [es] at h; cases h; exact ⟨rfl, rfl⟩)
    repeat (first | (refine And.intro ?_ ?_; · (first | exact rfl | (show (_ : Int) ≤ _; omega) | (show (_ : Int) < _; omega) | assumption | exact SqL.of upd_same | exact SqT.of upd_same | exact upd_same | exact Drew.at_ (by assumption) | exact at_of (j := 0) rfl rfl | exact at_of (j := 1) rfl rfl | exact at_of (j := 2) rfl rfl | exact at_of (j := 3) rfl rfl | exact .inr (by assumption) | exact .inl (by assumption) | exact .ty _ | exact dp_ty (by assumption) | exact kit_strD _ | exact kit_tupD _ | exact kit_intD _ | exact kit_boolD _ | exact ⟨_, rfl⟩ | decide | omega | exact (show 0 ≤ sizeLine by decide) | exact (show 1 ≤ sizeLine by decide) | exact (show 2 ≤ sizeLine by decide) | exact (show 3 ≤ sizeLine by decide) | exact (show 4 ≤ sizeLine by decide) | exact (show 5 ≤ sizeLine by decide) | exact (show 6 ≤ sizeLine by decide) | decide +kernel)) | apply Exists.intro | refine iteT ?_ | refine iteF ?_)
    refine ifd (fun c3 => ?_) (fun c3 => ?_)
    · have c3 : grS b ws n > bd := c3
      refine fin _ s1 fun z => ?_
      have z := ((key Iff.rfl).mp z).1
      omega
    have c3 : ¬ grS b ws n > bd := c3
    have c3' : grS b ws n ≤ bd := by omega
    have he1 := Dp.same s1 he
    have k10 : ∀ {x : Nat}, x ≤ 2 → x ≤ 10 := fun h => Nat.le_trans h (by decide)
    repeat (first | (refine And.intro ?_ ?_; · (first | exact rfl | (show (_ : Int) ≤ _; omega) | (show (_ : Int) < _; omega) | assumption | exact SqL.of upd_same | exact SqT.of upd_same | exact upd_same | exact Drew.at_ (by assumption) | exact at_of (j := 0) rfl rfl | exact at_of (j := 1) rfl rfl | exact at_of (j := 2) rfl rfl | exact at_of (j := 3) rfl rfl | exact .inr (by assumption) | exact .inl (by assumption) | exact .ty _ | exact dp_ty (by assumption) | exact kit_strD _ | exact kit_tupD _ | exact kit_intD _ | exact kit_boolD _ | exact ⟨_, rfl⟩ | decide | omega | exact (show 0 ≤ sizeLine by decide) | exact (show 1 ≤ sizeLine by decide) | exact (show 2 ≤ sizeLine by decide) | exact (show 3 ≤ sizeLine by decide) | exact (show 4 ≤ sizeLine by decide) | exact (show 5 ≤ sizeLine by decide) | exact (show 6 ≤ sizeLine by decide) | decide +kernel)) | apply Exists.intro | refine iteT ?_ | refine iteF ?_)
    refine ifd (fun c4 => ?_) (fun c4 => ?_)
    · refine ⟨_, rfl, u, e, 1, rfl, he1, by decide, fun r H2 hr2 s2 => ?_⟩
      have s12 : Same H H2 := fun x o y => s2 _ _ (s1 _ _ y)
      cases r with
      | false =>
        repeat (first | (refine And.intro ?_ ?_; · (first | exact rfl | (show (_ : Int) ≤ _; omega) | (show (_ : Int) < _; omega) | assumption | exact SqL.of upd_same | exact SqT.of upd_same | exact upd_same | exact Drew.at_ (by assumption) | exact at_of (j := 0) rfl rfl | exact at_of (j := 1) rfl rfl | exact at_of (j := 2) rfl rfl | exact at_of (j := 3) rfl rfl | exact .inr (by assumption) | exact .inl (by assumption) | exact .ty _ | exact dp_ty (by assumption) | exact kit_strD _ | exact kit_tupD _ | exact kit_intD _ | exact kit_boolD _ | exact ⟨_, rfl⟩ | decide | omega | exact (show 0 ≤ sizeLine by decide) | exact (show 1 ≤ sizeLine by decide) | exact (show 2 ≤ sizeLine by decide) | exact (show 3 ≤ sizeLine by decide) | exact (show 4 ≤ sizeLine by decide) | exact (show 5 ≤ sizeLine by decide) | exact (show 6 ≤ sizeLine by decide) | decide +kernel)) | apply Exists.intro | refine iteT ?_ | refine iteF ?_)
        refine fin _ s12 fun z => ?_
        rcases ((key Iff.rfl).mp z).2 with ⟨_, z⟩ | ⟨z, _⟩
        · exact absurd (hr2.mpr ⟨[grS b ws n], z, rfl⟩) (by decide)
        · exact z c4
      | true =>
        obtain ⟨ns, rfl, nl⟩ := hr2.mp rfl
        obtain ⟨x, rfl⟩ := List.length_eq_one_iff.mp nl
        obtain ⟨p, ys, rfl, g1, g2⟩ : ∃ p ys, u = .ref p ∧ SqT K H p ys ∧ DpAll K H ys [.int x] := by
          cases he with
          | tup h1 h2 => exact ⟨_, _, rfl, h1, h2⟩
        obtain ⟨y, _, rfl, hy, g2⟩ := DpAll.oneR g2
        cases g2
        cases hy
        have g3 := sqT_same s12 g1
        have hq2 := s2 _ _ hq
        have sa2 := sa.same s2
        repeat (first | (refine And.intro ?_ ?_; · (first | exact rfl | (show (_ : Int) ≤ _; omega) | (show (_ : Int) < _; omega) | assumption | exact SqL.of upd_same | exact SqT.of upd_same | exact upd_same | exact Drew.at_ (by assumption) | exact at_of (j := 0) rfl rfl | exact at_of (j := 1) rfl rfl | exact at_of (j := 2) rfl rfl | exact at_of (j := 3) rfl rfl | exact .inr (by assumption) | exact .inl (by assumption) | exact .ty _ | exact dp_ty (by assumption) | exact kit_strD _ | exact kit_tupD _ | exact kit_intD _ | exact kit_boolD _ | exact ⟨_, rfl⟩ | decide | omega | exact (show 0 ≤ sizeLine by decide) | exact (show 1 ≤ sizeLine by decide) | exact (show 2 ≤ sizeLine by decide) | exact (show 3 ≤ sizeLine by decide) | exact (show 4 ≤ sizeLine by decide) | exact (show 5 ≤ sizeLine by decide) | exact (show 6 ≤ sizeLine by decide) | decide +kernel)) | apply Exists.intro | refine iteT ?_ | refine iteF ?_)
        refine k _ _ (Iff.trans ?_ (key Iff.rfl).symm) s12
        refine ⟨fun z => ⟨c3', .inl ⟨c4, ?_⟩⟩, fun z => ?_⟩
        · have z : x = grS b ws n := of_decide_eq_true z
          rw [z]
          rfl
        · rcases z.2 with ⟨_, z⟩ | ⟨z, _⟩
          · cases z
            exact decide_eq_true rfl
          · exact absurd c4 z
    refine ⟨_, rfl, u, e, 2, rfl, he1, by decide, fun r H2 hr2 s2 => ?_⟩
    have s12 : Same H H2 := fun x o y => s2 _ _ (s1 _ _ y)
    cases r with
    | false =>
      repeat (first | (refine And.intro ?_ ?_; · (first | exact rfl | (show (_ : Int) ≤ _; omega) | (show (_ : Int) < _; omega) | assumption | exact SqL.of upd_same | exact SqT.of upd_same | exact upd_same | exact Drew.at_ (by assumption) | exact at_of (j := 0) rfl rfl | exact at_of (j := 1) rfl rfl | exact at_of (j := 2) rfl rfl | exact at_of (j := 3) rfl rfl | exact .inr (by assumption) | exact .inl (by assumption) | exact .ty _ | exact dp_ty (by assumption) | exact kit_strD _ | exact kit_tupD _ | exact kit_intD _ | exact kit_boolD _ | exact ⟨_, rfl⟩ | decide | omega | exact (show 0 ≤ sizeLine by decide) | exact (show 1 ≤ sizeLine by decide) | exact (show 2 ≤ sizeLine by decide) | exact (show 3 ≤ sizeLine by decide) | exact (show 4 ≤ sizeLine by decide) | exact (show 5 ≤ sizeLine by decide) | exact (show 6 ≤ sizeLine by decide) | decide +kernel)) | apply Exists.intro | refine iteT ?_ | refine iteF ?_)
      refine fin _ s12 fun z => ?_
      rcases ((key Iff.rfl).mp z).2 with ⟨z, _⟩ | ⟨_, z, _⟩
      · exact c4 z
      · exact absurd (hr2.mpr ⟨[grS b ws n, grS b ws (n + 1)], z, rfl⟩) (by decide)
    | true =>
      obtain ⟨ns, rfl, nl⟩ := hr2.mp rfl
      obtain ⟨x, y, rfl⟩ : ∃ x y, ns = [x, y] := by
        match ns, nl with
        | [x, y], _ => exact ⟨x, y, rfl⟩
      obtain ⟨p, ys, rfl, g1, g2⟩ : ∃ p ys, u = .ref p ∧ SqT K H p ys ∧ DpAll K H ys [.int x, .int y] := by
        cases he with
        | tup h1 h2 => exact ⟨_, _, rfl, h1, h2⟩
      obtain ⟨y1, _, rfl, hy1, g4⟩ := DpAll.oneR g2
      obtain ⟨y2, _, rfl, hy2, g5⟩ := DpAll.oneR g4
      cases g5
      cases hy1
      cases hy2
      have g3 := sqT_same s12 g1
      have hq2 := s2 _ _ hq
      have sa2 := sa.same s2
      have he2 := Dp.same s12 he
      have n3 : n + 1 < 10 ^ 60 := by
        have c4 : ¬ n = 10 ^ 60 - 1 := c4
        omega
      have n4 : 0 ≤ n + 1 := by omega
      refine ⟨_, rfl, ?_⟩
      refine iteF ?_
      have sq := (shp_ints_t [x, y]).shaped
      repeat (first | (refine And.intro ?_ ?_; · (first | exact rfl | (show (_ : Int) ≤ _; omega) | (show (_ : Int) < _; omega) | assumption | exact SqL.of upd_same | exact SqT.of upd_same | exact upd_same | exact Drew.at_ (by assumption) | exact at_of (j := 0) rfl rfl | exact at_of (j := 1) rfl rfl | exact at_of (j := 2) rfl rfl | exact at_of (j := 3) rfl rfl | exact .inr (by assumption) | exact .inl (by assumption) | exact .ty _ | exact dp_ty (by assumption) | exact kit_strD _ | exact kit_tupD _ | exact kit_intD _ | exact kit_boolD _ | exact ⟨_, rfl⟩ | decide | omega | exact (show 0 ≤ sizeLine by decide) | exact (show 1 ≤ sizeLine by decide) | exact (show 2 ≤ sizeLine by decide) | exact (show 3 ≤ sizeLine by decide) | exact (show 4 ≤ sizeLine by decide) | exact (show 5 ≤ sizeLine by decide) | exact (show 6 ≤ sizeLine by decide) | decide +kernel)) | apply Exists.intro | refine iteT ?_ | refine iteF ?_)
      intro p3 hp3
      have zH3 : Same H2 (upd H2 p3 (.tup [.int (grS b ws n), .int (grS b ws (n + 1))])) := up hp3
      have sH3 : Same H2 (upd H2 p3 (.tup [.int (grS b ws n), .int (grS b ws (n + 1))])) := fun x o e => zH3 _ _ ((Same.refl H2) _ _ e)
      have gp3 : upd H2 p3 (.tup [.int (grS b ws n), .int (grS b ws (n + 1))]) p3 = some (.tup [.int (grS b ws n), .int (grS b ws (n + 1))]) := upd_same
      generalize upd H2 p3 (.tup [.int (grS b ws n), .int (grS b ws (n + 1))]) = H3 at *
      have s13 : Same H H3 := fun x o e => zH3 _ _ (s12 _ _ e)
      have g6 := sqT_same zH3 g3
      have he3 := Dp.same zH3 he2
      refine ⟨_, .tuple [.int (grS b ws n), .int (grS b ws (n + 1))], he3, .tup (SqT.of gp3) (.cons (.int _) (.cons (.int _) .nil)), sq, (shp_ints_t [_, _]).shaped, ?_⟩
      clear he2 he3 he1 g1 g3 gp3
      refine ⟨!decide (x = grS b ws n ∧ y = grS b ws (n + 1)), congrArg (fun b => V.bl (!b)) eqv_two, ifn (fun c5 => ?_) (fun c5 => ?_)⟩
      · refine fin _ s13 fun z => ?_
        rcases ((key Iff.rfl).mp z).2 with ⟨z, _⟩ | ⟨_, z, _⟩
        · exact c4 z
        · cases z
          exact c5 ⟨rfl, rfl⟩
      obtain ⟨rfl, rfl⟩ := c5
      repeat (first | (refine And.intro ?_ ?_; · (first | exact rfl | (show (_ : Int) ≤ _; omega) | (show (_ : Int) < _; omega) | assumption | exact SqL.of upd_same | exact SqT.of upd_same | exact upd_same | exact Drew.at_ (by assumption) | exact at_of (j := 0) rfl rfl | exact at_of (j := 1) rfl rfl | exact at_of (j := 2) rfl rfl | exact at_of (j := 3) rfl rfl | exact .inr (by assumption) | exact .inl (by assumption) | exact .ty _ | exact dp_ty (by assumption) | exact kit_strD _ | exact kit_tupD _ | exact kit_intD _ | exact kit_boolD _ | exact ⟨_, rfl⟩ | decide | omega | exact (show 0 ≤ sizeLine by decide) | exact (show 1 ≤ sizeLine by decide) | exact (show 2 ≤ sizeLine by decide) | exact (show 3 ≤ sizeLine by decide) | exact (show 4 ≤ sizeLine by decide) | exact (show 5 ≤ sizeLine by decide) | exact (show 6 ≤ sizeLine by decide) | decide +kernel)) | apply Exists.intro | refine iteT ?_ | refine iteF ?_)
      refine k _ _ (Iff.trans ?_ (key Iff.rfl).symm) s13
      refine ⟨fun z => ⟨c3', .inr ⟨c4, rfl, of_decide_eq_true z⟩⟩, fun z => ?_⟩
      rcases z.2 with ⟨z, _⟩ | ⟨_, _, z⟩
      · exact absurd z c4
      · exact decide_eq_true z
end
/-! ### a size that is missed -/
def MisP (ds : List PyData) (e : PyData) : Prop := ∃ (t : PyData) (sz b : Int) (ws : List Wr), ds = [t, .int sz] ∧ 0 ≤ sz ∧ sz ≤ 10 ^ 60 - 1 ∧ rdT t = some (b, ws) ∧
  ((e = .tuple [] ∧ sz < grS b ws 0) ∨ ∃ n : Int, e = .int n ∧ 0 ≤ n ∧ n < 10 ^ 60 - 1 ∧ grS b ws n < sz ∧ sz < grS b ws (n + 1))
def spMis (K : PySem.W.Frag) : Sp := fun vs H Q _ => ∃ (a : Addr) (u : V) (xs : List V) (ds : List PyData) (e : PyData), vs = [.ref a, u] ∧ SqT K H a xs ∧ DpAll K H xs ds ∧ Dp K H u e ∧ (∀ d ∈ ds, TextOk d) ∧ ∀ r H', (r = true ↔ MisP ds e) → Same H H' → Q (.bl r) H'
section
variable {P : Program} {w : World} {K : PySem.W.Frag} {mg : Str → Option Value} {base : Heap}
theorem ok_shows_missed (T : Tx w K mg) : Prom P w K mg base CX0 10 "shows_missed" s_shows_missed ["rest", "paper"] (spMis K) := by
  refine Prom.of T.d_shows_missed sc_shows_missed (fun vs H Q E h => ?_) (fun _ _ _ _ _ _ us hl => match us, hl with | [_, _], _ => rfl) (fun f cdv A outer s H vs Q E hr h => ?_)
  · obtain ⟨a, u, xs, ds, e, rfl, _⟩ := h
    rfl
  · obtain ⟨a, u, xs, ds, e, rfl, hS, hD, he, ht, k⟩ := h
    refine ⟨_, (pss_cons (ps_if (PW.pt (pw_or (pt_cmp (pc_neI (pe_callB call_len_seq (by rfl) T.b_len (by decide +kernel) (pa_cons (pv 0) pa_nil)) pe_int)) (pw_or1 (pt_not (pt_val (pe_callP (ok_is_lengthX T) (hr.mono (by decide)) (by rfl) pass0 (pa_cons (pe_ix ix_tup (pv 0) pe_int (fun _ _ => rfl)) pa_nil))))))) (pss_one (ps_ret pe_bl)) pss_nil)
      (pss_cons (ps_par (i := 2) (j := 3) (by rfl) sc_shows_missed.nd rfl rfl (by decide) rfl rfl (pa_cons (pe_callP (ok_stack_told T) (hr.mono (by decide)) (by rfl) pass0 (pa_cons (pe_ix ix_tup (pv 0) pe_int (fun _ _ => rfl)) pa_nil)) (pa_cons (pe_ix ix_tup (pv 0) pe_int (fun _ _ => rfl)) pa_nil)) (by rfl))
      (pss_cons (ps_if (pt_cmpR op_isN (pv 2) pe_non (nomark _)) (pss_one (ps_ret pe_bl)) pss_nil)
      (pss_cons (ps_if (pt_val (pe_callB call_isi (by rfl) T.b_isinstance (by decide +kernel) (pa_cons (pv 1) (pa_cons (pe_bltn (v := .ty "tuple") (by rfl) T.b_tuple (by decide +kernel) rfl) pa_nil)))) (pss_one (ps_ret (pe_and (pe_cmp (pc_eqI (pe_callB call_len_seq (by rfl) T.b_len (by decide +kernel) (pa_cons (pv 1) pa_nil)) pe_int)) (pe_one (pe_cmp (pc_gt (pe_methP (ok_Stack_grown T) (hr.mono (by decide)) pass0 (pv 2) (pa_cons pe_int pa_nil)) (pv 3))))))) pss_nil)
      (pss_one (ps_ret (pe_and (pe_callP (ok_is_lengthX T) (hr.mono (by decide)) (by rfl) pass0 (pa_cons (pv 1) pa_nil)) (pe_and (pe_cmpR op_lt (pv 1) (pe_gint T.c_LAST_LENGTH) (nomark _)) (pe_one (pe_chain op_lt op_lt (pe_methP (ok_Stack_grown T) (hr.mono (by decide)) pass0 (pv 2) (pa_cons (pv 1) pa_nil)) (pv 3) (pe_methP (ok_Stack_grown T) (hr.mono (by decide)) pass0 (pv 2) (pa_cons (pe_op op_add (pv 1) pe_int) pa_nil)))))))))))), ?_⟩
    have fin : ∀ H', Same H H' → ¬ MisP ds e → Q (.bl false) H' := fun H' s n => k _ _ (nb n) s
    have xl := DpAll.len hD
    repeat (first | (refine And.intro ?_ ?_; · (first | exact rfl | (show (_ : Int) ≤ _; omega) | (show (_ : Int) < _; omega) | assumption | exact SqL.of upd_same | exact SqT.of upd_same | exact upd_same | exact Drew.at_ (by assumption) | exact at_of (j := 0) rfl rfl | exact at_of (j := 1) rfl rfl | exact at_of (j := 2) rfl rfl | exact at_of (j := 3) rfl rfl | exact .inr (by assumption) | exact .inl (by assumption) | exact .ty _ | exact dp_ty (by assumption) | exact kit_strD _ | exact kit_tupD _ | exact kit_intD _ | exact kit_boolD _ | exact ⟨_, rfl⟩ | decide | omega | exact (show 0 ≤ sizeLine by decide) | exact (show 1 ≤ sizeLine by decide) | exact (show 2 ≤ sizeLine by decide) | exact (show 3 ≤ sizeLine by decide) | exact (show 4 ≤ sizeLine by decide) | exact (show 5 ≤ sizeLine by decide) | exact (show 6 ≤ sizeLine by decide) | decide +kernel)) | apply Exists.intro | refine iteT ?_ | refine iteF ?_)
    refine ifn (fun c => ?_) (fun c => ?_)
    · have c : ¬ (xs.length : Int) = 2 := c
      repeat (first | (refine And.intro ?_ ?_; · (first | exact rfl | (show (_ : Int) ≤ _; omega) | (show (_ : Int) < _; omega) | assumption | exact SqL.of upd_same | exact SqT.of upd_same | exact upd_same | exact Drew.at_ (by assumption) | exact at_of (j := 0) rfl rfl | exact at_of (j := 1) rfl rfl | exact at_of (j := 2) rfl rfl | exact at_of (j := 3) rfl rfl | exact .inr (by assumption) | exact .inl (by assumption) | exact .ty _ | exact dp_ty (by assumption) | exact kit_strD _ | exact kit_tupD _ | exact kit_intD _ | exact kit_boolD _ | exact ⟨_, rfl⟩ | decide | omega | exact (show 0 ≤ sizeLine by decide) | exact (show 1 ≤ sizeLine by decide) | exact (show 2 ≤ sizeLine by decide) | exact (show 3 ≤ sizeLine by decide) | exact (show 4 ≤ sizeLine by decide) | exact (show 5 ≤ sizeLine by decide) | exact (show 6 ≤ sizeLine by decide) | decide +kernel)) | apply Exists.intro | refine iteT ?_ | refine iteF ?_)
      refine fin _ (Same.refl H) fun ⟨t, sz, b, ws, h, _⟩ => c ?_
      rw [xl, h]
      rfl
    obtain ⟨x0, x1, rfl⟩ := two c
    obtain ⟨d0, es, rfl, hx0, hD⟩ := DpAll.one hD
    obtain ⟨d1, es, rfl, hx1, hD⟩ := DpAll.one hD
    obtain rfl := DpAll.zero hD
    clear xl c hD
    repeat (first | (refine And.intro ?_ ?_; · (first | exact rfl | (show (_ : Int) ≤ _; omega) | (show (_ : Int) < _; omega) | assumption | exact SqL.of upd_same | exact SqT.of upd_same | exact upd_same | exact Drew.at_ (by assumption) | exact at_of (j := 0) rfl rfl | exact at_of (j := 1) rfl rfl | exact at_of (j := 2) rfl rfl | exact at_of (j := 3) rfl rfl | exact .inr (by assumption) | exact .inl (by assumption) | exact .ty _ | exact dp_ty (by assumption) | exact kit_strD _ | exact kit_tupD _ | exact kit_intD _ | exact kit_boolD _ | exact ⟨_, rfl⟩ | decide | omega | exact (show 0 ≤ sizeLine by decide) | exact (show 1 ≤ sizeLine by decide) | exact (show 2 ≤ sizeLine by decide) | exact (show 3 ≤ sizeLine by decide) | exact (show 4 ≤ sizeLine by decide) | exact (show 5 ≤ sizeLine by decide) | exact (show 6 ≤ sizeLine by decide) | decide +kernel)) | apply Exists.intro | refine iteT ?_ | refine iteF ?_)
    refine iteB (fun c1 => ?_) (fun c1 => ?_)
    · repeat (first | (refine And.intro ?_ ?_; · (first | exact rfl | (show (_ : Int) ≤ _; omega) | (show (_ : Int) < _; omega) | assumption | exact SqL.of upd_same | exact SqT.of upd_same | exact upd_same | exact Drew.at_ (by assumption) | exact at_of (j := 0) rfl rfl | exact at_of (j := 1) rfl rfl | exact at_of (j := 2) rfl rfl | exact at_of (j := 3) rfl rfl | exact .inr (by assumption) | exact .inl (by assumption) | exact .ty _ | exact dp_ty (by assumption) | exact kit_strD _ | exact kit_tupD _ | exact kit_intD _ | exact kit_boolD _ | exact ⟨_, rfl⟩ | decide | omega | exact (show 0 ≤ sizeLine by decide) | exact (show 1 ≤ sizeLine by decide) | exact (show 2 ≤ sizeLine by decide) | exact (show 3 ≤ sizeLine by decide) | exact (show 4 ≤ sizeLine by decide) | exact (show 5 ≤ sizeLine by decide) | exact (show 6 ≤ sizeLine by decide) | decide +kernel)) | apply Exists.intro | refine iteT ?_ | refine iteF ?_)
      refine fin _ (Same.refl H) fun ⟨t, sz, b, ws, h, h0, h1, _⟩ => ?_
      cases h
      exact inR_no c1 ⟨h0, h1⟩
    obtain ⟨sz, rfl, b0, b1⟩ := inR_int c1
    cases hx1
    have t0 := ht _ (.head _)
    repeat (first | (refine And.intro ?_ ?_; · (first | exact rfl | (show (_ : Int) ≤ _; omega) | (show (_ : Int) < _; omega) | assumption | exact SqL.of upd_same | exact SqT.of upd_same | exact upd_same | exact Drew.at_ (by assumption) | exact at_of (j := 0) rfl rfl | exact at_of (j := 1) rfl rfl | exact at_of (j := 2) rfl rfl | exact at_of (j := 3) rfl rfl | exact .inr (by assumption) | exact .inl (by assumption) | exact .ty _ | exact dp_ty (by assumption) | exact kit_strD _ | exact kit_tupD _ | exact kit_intD _ | exact kit_boolD _ | exact ⟨_, rfl⟩ | decide | omega | exact (show 0 ≤ sizeLine by decide) | exact (show 1 ≤ sizeLine by decide) | exact (show 2 ≤ sizeLine by decide) | exact (show 3 ≤ sizeLine by decide) | exact (show 4 ≤ sizeLine by decide) | exact (show 5 ≤ sizeLine by decide) | exact (show 6 ≤ sizeLine by decide) | decide +kernel)) | apply Exists.intro | refine iteT ?_ | refine iteF ?_)
    intro v1 H1 s1 t1
    have hS1 := sqT_same s1 hS
    repeat (first | (refine And.intro ?_ ?_; · (first | exact rfl | (show (_ : Int) ≤ _; omega) | (show (_ : Int) < _; omega) | assumption | exact SqL.of upd_same | exact SqT.of upd_same | exact upd_same | exact Drew.at_ (by assumption) | exact at_of (j := 0) rfl rfl | exact at_of (j := 1) rfl rfl | exact at_of (j := 2) rfl rfl | exact at_of (j := 3) rfl rfl | exact .inr (by assumption) | exact .inl (by assumption) | exact .ty _ | exact dp_ty (by assumption) | exact kit_strD _ | exact kit_tupD _ | exact kit_intD _ | exact kit_boolD _ | exact ⟨_, rfl⟩ | decide | omega | exact (show 0 ≤ sizeLine by decide) | exact (show 1 ≤ sizeLine by decide) | exact (show 2 ≤ sizeLine by decide) | exact (show 3 ≤ sizeLine by decide) | exact (show 4 ≤ sizeLine by decide) | exact (show 5 ≤ sizeLine by decide) | exact (show 6 ≤ sizeLine by decide) | decide +kernel)) | apply Exists.intro | refine iteT ?_ | refine iteF ?_)
    rcases t1 with ⟨en, rfl⟩ | ⟨q, b, ws, es, rfl, sa, so⟩
    · repeat (first | (refine And.intro ?_ ?_; · (first | exact rfl | (show (_ : Int) ≤ _; omega) | (show (_ : Int) < _; omega) | assumption | exact SqL.of upd_same | exact SqT.of upd_same | exact upd_same | exact Drew.at_ (by assumption) | exact at_of (j := 0) rfl rfl | exact at_of (j := 1) rfl rfl | exact at_of (j := 2) rfl rfl | exact at_of (j := 3) rfl rfl | exact .inr (by assumption) | exact .inl (by assumption) | exact .ty _ | exact dp_ty (by assumption) | exact kit_strD _ | exact kit_tupD _ | exact kit_intD _ | exact kit_boolD _ | exact ⟨_, rfl⟩ | decide | omega | exact (show 0 ≤ sizeLine by decide) | exact (show 1 ≤ sizeLine by decide) | exact (show 2 ≤ sizeLine by decide) | exact (show 3 ≤ sizeLine by decide) | exact (show 4 ≤ sizeLine by decide) | exact (show 5 ≤ sizeLine by decide) | exact (show 6 ≤ sizeLine by decide) | decide +kernel)) | apply Exists.intro | refine iteT ?_ | refine iteF ?_)
      refine fin _ s1 fun ⟨t, sz, b, ws, h, h0, h1, h4, _⟩ => ?_
      cases h
      rw [en] at h4
      cases h4
    obtain ⟨dx, tt, us, hq, _⟩ := id sa
    have key : ∀ {Z : Prop}, (((e = .tuple [] ∧ sz < grS b ws 0) ∨ ∃ n : Int, e = .int n ∧ 0 ≤ n ∧ n < 10 ^ 60 - 1 ∧ grS b ws n < sz ∧ sz < grS b ws (n + 1)) ↔ Z) → (MisP [d0, .int sz] e ↔ Z) := fun {Z} h => by
      rw [← h]
      refine ⟨fun ⟨t, sz', b', ws', z, _, _, h4, h5⟩ => ?_, fun h5 => ⟨d0, sz, b, ws, rfl, b0, b1, es, h5⟩⟩
      cases z
      rw [es] at h4
      cases h4
      exact h5
    have he1 := Dp.same s1 he
    have zz : (0 : Int) ≤ 0 := Int.le_refl 0
    have zl : (0 : Int) < 10 ^ 60 := by decide
    repeat (first | (refine And.intro ?_ ?_; · (first | exact rfl | (show (_ : Int) ≤ _; omega) | (show (_ : Int) < _; omega) | assumption | exact SqL.of upd_same | exact SqT.of upd_same | exact upd_same | exact Drew.at_ (by assumption) | exact at_of (j := 0) rfl rfl | exact at_of (j := 1) rfl rfl | exact at_of (j := 2) rfl rfl | exact at_of (j := 3) rfl rfl | exact .inr (by assumption) | exact .inl (by assumption) | exact .ty _ | exact dp_ty (by assumption) | exact kit_strD _ | exact kit_tupD _ | exact kit_intD _ | exact kit_boolD _ | exact ⟨_, rfl⟩ | decide | omega | exact (show 0 ≤ sizeLine by decide) | exact (show 1 ≤ sizeLine by decide) | exact (show 2 ≤ sizeLine by decide) | exact (show 3 ≤ sizeLine by decide) | exact (show 4 ≤ sizeLine by decide) | exact (show 5 ≤ sizeLine by decide) | exact (show 6 ≤ sizeLine by decide) | decide +kernel)) | apply Exists.intro | refine iteT ?_ | refine iteF ?_)
    cases ct : isTupD e with
    | true =>
      obtain ⟨es', rfl⟩ := tupD_of ct
      obtain ⟨p, ys, rfl, g1, g2⟩ : ∃ p ys, u = .ref p ∧ SqT K H1 p ys ∧ DpAll K H1 ys es' := by
        cases he1 with
        | tup h1 h2 => exact ⟨_, _, rfl, h1, h2⟩
      have yl := DpAll.len g2
      repeat (first | (refine And.intro ?_ ?_; · (first | exact rfl | (show (_ : Int) ≤ _; omega) | (show (_ : Int) < _; omega) | assumption | exact SqL.of upd_same | exact SqT.of upd_same | exact upd_same | exact Drew.at_ (by assumption) | exact at_of (j := 0) rfl rfl | exact at_of (j := 1) rfl rfl | exact at_of (j := 2) rfl rfl | exact at_of (j := 3) rfl rfl | exact .inr (by assumption) | exact .inl (by assumption) | exact .ty _ | exact dp_ty (by assumption) | exact kit_strD _ | exact kit_tupD _ | exact kit_intD _ | exact kit_boolD _ | exact ⟨_, rfl⟩ | decide | omega | exact (show 0 ≤ sizeLine by decide) | exact (show 1 ≤ sizeLine by decide) | exact (show 2 ≤ sizeLine by decide) | exact (show 3 ≤ sizeLine by decide) | exact (show 4 ≤ sizeLine by decide) | exact (show 5 ≤ sizeLine by decide) | exact (show 6 ≤ sizeLine by decide) | decide +kernel)) | apply Exists.intro | refine iteT ?_ | refine iteF ?_)
      refine ifd (fun c2 => ?_) (fun c2 => ?_)
      · have c2 : (ys.length : Int) = 0 := c2
        have e0 : es' = [] := List.length_eq_zero_iff.mp (by omega)
        subst e0
        repeat (first | (refine And.intro ?_ ?_; · (first | exact rfl | (show (_ : Int) ≤ _; omega) | (show (_ : Int) < _; omega) | assumption | exact SqL.of upd_same | exact SqT.of upd_same | exact upd_same | exact Drew.at_ (by assumption) | exact at_of (j := 0) rfl rfl | exact at_of (j := 1) rfl rfl | exact at_of (j := 2) rfl rfl | exact at_of (j := 3) rfl rfl | exact .inr (by assumption) | exact .inl (by assumption) | exact .ty _ | exact dp_ty (by assumption) | exact kit_strD _ | exact kit_tupD _ | exact kit_intD _ | exact kit_boolD _ | exact ⟨_, rfl⟩ | decide | omega | exact (show 0 ≤ sizeLine by decide) | exact (show 1 ≤ sizeLine by decide) | exact (show 2 ≤ sizeLine by decide) | exact (show 3 ≤ sizeLine by decide) | exact (show 4 ≤ sizeLine by decide) | exact (show 5 ≤ sizeLine by decide) | exact (show 6 ≤ sizeLine by decide) | decide +kernel)) | apply Exists.intro | refine iteT ?_ | refine iteF ?_)
        refine k _ _ (Iff.trans ?_ (key Iff.rfl).symm) s1
        refine ⟨fun z => .inl ⟨rfl, of_decide_eq_true z⟩, fun z => ?_⟩
        rcases z with ⟨_, z⟩ | ⟨n, z, _⟩
        · exact decide_eq_true z
        · cases z
      · repeat (first | (refine And.intro ?_ ?_; · (first | exact rfl | (show (_ : Int) ≤ _; omega) | (show (_ : Int) < _; omega) | assumption | exact SqL.of upd_same | exact SqT.of upd_same | exact upd_same | exact Drew.at_ (by assumption) | exact at_of (j := 0) rfl rfl | exact at_of (j := 1) rfl rfl | exact at_of (j := 2) rfl rfl | exact at_of (j := 3) rfl rfl | exact .inr (by assumption) | exact .inl (by assumption) | exact .ty _ | exact dp_ty (by assumption) | exact kit_strD _ | exact kit_tupD _ | exact kit_intD _ | exact kit_boolD _ | exact ⟨_, rfl⟩ | decide | omega | exact (show 0 ≤ sizeLine by decide) | exact (show 1 ≤ sizeLine by decide) | exact (show 2 ≤ sizeLine by decide) | exact (show 3 ≤ sizeLine by decide) | exact (show 4 ≤ sizeLine by decide) | exact (show 5 ≤ sizeLine by decide) | exact (show 6 ≤ sizeLine by decide) | decide +kernel)) | apply Exists.intro | refine iteT ?_ | refine iteF ?_)
        refine fin _ s1 fun z => ?_
        rcases (key Iff.rfl).mp z with ⟨z, _⟩ | ⟨n, z, _⟩
        · cases z
          exact c2 (by show (ys.length : Int) = 0; rw [yl]; rfl)
        · cases z
    | false =>
      repeat (first | (refine And.intro ?_ ?_; · (first | exact rfl | (show (_ : Int) ≤ _; omega) | (show (_ : Int) < _; omega) | assumption | exact SqL.of upd_same | exact SqT.of upd_same | exact upd_same | exact Drew.at_ (by assumption) | exact at_of (j := 0) rfl rfl | exact at_of (j := 1) rfl rfl | exact at_of (j := 2) rfl rfl | exact at_of (j := 3) rfl rfl | exact .inr (by assumption) | exact .inl (by assumption) | exact .ty _ | exact dp_ty (by assumption) | exact kit_strD _ | exact kit_tupD _ | exact kit_intD _ | exact kit_boolD _ | exact ⟨_, rfl⟩ | decide | omega | exact (show 0 ≤ sizeLine by decide) | exact (show 1 ≤ sizeLine by decide) | exact (show 2 ≤ sizeLine by decide) | exact (show 3 ≤ sizeLine by decide) | exact (show 4 ≤ sizeLine by decide) | exact (show 5 ≤ sizeLine by decide) | exact (show 6 ≤ sizeLine by decide) | decide +kernel)) | apply Exists.intro | refine iteT ?_ | refine iteF ?_)
      cases ci : inR 0 (10 ^ 60 - 1) e with
      | false =>
        repeat (first | (refine And.intro ?_ ?_; · (first | exact rfl | (show (_ : Int) ≤ _; omega) | (show (_ : Int) < _; omega) | assumption | exact SqL.of upd_same | exact SqT.of upd_same | exact upd_same | exact Drew.at_ (by assumption) | exact at_of (j := 0) rfl rfl | exact at_of (j := 1) rfl rfl | exact at_of (j := 2) rfl rfl | exact at_of (j := 3) rfl rfl | exact .inr (by assumption) | exact .inl (by assumption) | exact .ty _ | exact dp_ty (by assumption) | exact kit_strD _ | exact kit_tupD _ | exact kit_intD _ | exact kit_boolD _ | exact ⟨_, rfl⟩ | decide | omega | exact (show 0 ≤ sizeLine by decide) | exact (show 1 ≤ sizeLine by decide) | exact (show 2 ≤ sizeLine by decide) | exact (show 3 ≤ sizeLine by decide) | exact (show 4 ≤ sizeLine by decide) | exact (show 5 ≤ sizeLine by decide) | exact (show 6 ≤ sizeLine by decide) | decide +kernel)) | apply Exists.intro | refine iteT ?_ | refine iteF ?_)
        refine fin _ s1 fun z => ?_
        rcases (key Iff.rfl).mp z with ⟨z, _⟩ | ⟨n, z, n0, n1, _⟩
        · rw [z] at ct
          cases ct
        · rw [z] at ci
          exact inR_no ci ⟨n0, by omega⟩
      | true =>
        obtain ⟨n, rfl, n0, n1⟩ := inR_int ci
        cases he1
        repeat (first | (refine And.intro ?_ ?_; · (first | exact rfl | (show (_ : Int) ≤ _; omega) | (show (_ : Int) < _; omega) | assumption | exact SqL.of upd_same | exact SqT.of upd_same | exact upd_same | exact Drew.at_ (by assumption) | exact at_of (j := 0) rfl rfl | exact at_of (j := 1) rfl rfl | exact at_of (j := 2) rfl rfl | exact at_of (j := 3) rfl rfl | exact .inr (by assumption) | exact .inl (by assumption) | exact .ty _ | exact dp_ty (by assumption) | exact kit_strD _ | exact kit_tupD _ | exact kit_intD _ | exact kit_boolD _ | exact ⟨_, rfl⟩ | decide | omega | exact (show 0 ≤ sizeLine by decide) | exact (show 1 ≤ sizeLine by decide) | exact (show 2 ≤ sizeLine by decide) | exact (show 3 ≤ sizeLine by decide) | exact (show 4 ≤ sizeLine by decide) | exact (show 5 ≤ sizeLine by decide) | exact (show 6 ≤ sizeLine by decide) | decide +kernel)) | apply Exists.intro | refine iteT ?_ | refine iteF ?_)
        refine ifd (fun c2 => ?_) (fun c2 => ?_)
        · have c2 : n < 10 ^ 60 - 1 := c2
          have n2 : n < 10 ^ 60 := by omega
          have n3 : n + 1 < 10 ^ 60 := by omega
          have n4 : 0 ≤ n + 1 := by omega
          repeat (first | (refine And.intro ?_ ?_; · (first | exact rfl | (show (_ : Int) ≤ _; omega) | (show (_ : Int) < _; omega) | assumption | exact SqL.of upd_same | exact SqT.of upd_same | exact upd_same | exact Drew.at_ (by assumption) | exact at_of (j := 0) rfl rfl | exact at_of (j := 1) rfl rfl | exact at_of (j := 2) rfl rfl | exact at_of (j := 3) rfl rfl | exact .inr (by assumption) | exact .inl (by assumption) | exact .ty _ | exact dp_ty (by assumption) | exact kit_strD _ | exact kit_tupD _ | exact kit_intD _ | exact kit_boolD _ | exact ⟨_, rfl⟩ | decide | omega | exact (show 0 ≤ sizeLine by decide) | exact (show 1 ≤ sizeLine by decide) | exact (show 2 ≤ sizeLine by decide) | exact (show 3 ≤ sizeLine by decide) | exact (show 4 ≤ sizeLine by decide) | exact (show 5 ≤ sizeLine by decide) | exact (show 6 ≤ sizeLine by decide) | decide +kernel)) | apply Exists.intro | refine iteT ?_ | refine iteF ?_)
          refine ifd (fun c3 => ?_) (fun c3 => ?_)
          · repeat (first | (refine And.intro ?_ ?_; · (first | exact rfl | (show (_ : Int) ≤ _; omega) | (show (_ : Int) < _; omega) | assumption | exact SqL.of upd_same | exact SqT.of upd_same | exact upd_same | exact Drew.at_ (by assumption) | exact at_of (j := 0) rfl rfl | exact at_of (j := 1) rfl rfl | exact at_of (j := 2) rfl rfl | exact at_of (j := 3) rfl rfl | exact .inr (by assumption) | exact .inl (by assumption) | exact .ty _ | exact dp_ty (by assumption) | exact kit_strD _ | exact kit_tupD _ | exact kit_intD _ | exact kit_boolD _ | exact ⟨_, rfl⟩ | decide | omega | exact (show 0 ≤ sizeLine by decide) | exact (show 1 ≤ sizeLine by decide) | exact (show 2 ≤ sizeLine by decide) | exact (show 3 ≤ sizeLine by decide) | exact (show 4 ≤ sizeLine by decide) | exact (show 5 ≤ sizeLine by decide) | exact (show 6 ≤ sizeLine by decide) | decide +kernel)) | apply Exists.intro | refine iteT ?_ | refine iteF ?_)
            refine k _ _ (Iff.trans ?_ (key Iff.rfl).symm) s1
            refine ⟨fun z => .inr ⟨n, rfl, n0, c2, c3, of_decide_eq_true z⟩, fun z => ?_⟩
            rcases z with ⟨z, _⟩ | ⟨m, z, _, _, _, h⟩
            · cases z
            · cases z
              exact decide_eq_true h
          · repeat (first | (refine And.intro ?_ ?_; · (first | exact rfl | (show (_ : Int) ≤ _; omega) | (show (_ : Int) < _; omega) | assumption | exact SqL.of upd_same | exact SqT.of upd_same | exact upd_same | exact Drew.at_ (by assumption) | exact at_of (j := 0) rfl rfl | exact at_of (j := 1) rfl rfl | exact at_of (j := 2) rfl rfl | exact at_of (j := 3) rfl rfl | exact .inr (by assumption) | exact .inl (by assumption) | exact .ty _ | exact dp_ty (by assumption) | exact kit_strD _ | exact kit_tupD _ | exact kit_intD _ | exact kit_boolD _ | exact ⟨_, rfl⟩ | decide | omega | exact (show 0 ≤ sizeLine by decide) | exact (show 1 ≤ sizeLine by decide) | exact (show 2 ≤ sizeLine by decide) | exact (show 3 ≤ sizeLine by decide) | exact (show 4 ≤ sizeLine by decide) | exact (show 5 ≤ sizeLine by decide) | exact (show 6 ≤ sizeLine by decide) | decide +kernel)) | apply Exists.intro | refine iteT ?_ | refine iteF ?_)
            refine fin _ s1 fun z => ?_
            rcases (key Iff.rfl).mp z with ⟨z, _⟩ | ⟨m, z, _, _, h, _⟩
            · cases z
            · cases z
              exact c3 h
        · repeat (first | (refine And.intro ?_ ?_; · (first | exact rfl | (show (_ : Int) ≤ _; omega) | (show (_ : Int) < _; omega) | assumption | exact SqL.of upd_same | exact SqT.of upd_same | exact upd_same | exact Drew.at_ (by assumption) | exact at_of (j := 0) rfl rfl | exact at_of (j := 1) rfl rfl | exact at_of (j := 2) rfl rfl | exact at_of (j := 3) rfl rfl | exact .inr (by assumption) | exact .inl (by assumption) | exact .ty _ | exact dp_ty (by assumption) | exact kit_strD _ | exact kit_tupD _ | exact kit_intD _ | exact kit_boolD _ | exact ⟨_, rfl⟩ | decide | omega | exact (show 0 ≤ sizeLine by decide) | exact (show 1 ≤ sizeLine by decide) | exact (show 2 ≤ sizeLine by decide) | exact (show 3 ≤ sizeLine by decide) | exact (show 4 ≤ sizeLine by decide) | exact (show 5 ≤ sizeLine by decide) | exact (show 6 ≤ sizeLine by decide) | decide +kernel)) | apply Exists.intro | refine iteT ?_ | refine iteF ?_)
          refine fin _ s1 fun z => ?_
          rcases (key Iff.rfl).mp z with ⟨z, _⟩ | ⟨m, z, _, h, _⟩
          · cases z
          · cases z
            exact c2 h
end
/-! ### the checker, of the words payload and missed -/
def HoldsM (d e : PyData) : Prop := ∃ ds, (d = .tuple (.str "payload" :: ds) ∧ PayP ds e) ∨ (d = .tuple (.str "missed" :: ds) ∧ MisP ds e)
def WordOk (d : PyData) : Prop := ∀ s ds, d = .tuple (.str s :: ds) → s ≠ "other" ∧ s ≠ "longer" ∧ s ≠ "size" ∧ s ≠ "doubled" ∧ s ≠ "stopped"
def TextsOk (d : PyData) : Prop := ∀ ds, d = .tuple ds → ∀ x ∈ ds, TextOk x
def spHolds (K : PySem.W.Frag) : Sp := fun vs H Q _ => ∃ (v u : V) (d e : PyData), vs = [v, u] ∧ Dp K H v d ∧ Dp K H u e ∧ WordOk d ∧ TextsOk d ∧ ∀ r H', (r = true ↔ HoldsM d e) → Same H H' → Q (.bl r) H'
theorem ifw_neg {b : Bool} {A B : Prop} (h : b = false) (a : B) : if b = true then A else B := by
  rw [h, if_neg Bool.false_ne_true]
  exact a
theorem ifw_pos {b : Bool} {A B : Prop} (h : b = true) (a : A) : if b = true then A else B := by
  rw [h, if_pos rfl]
  exact a
theorem eqw_neg {x y : Str} {A B : Prop} (h : x ≠ y) (a : B) : if decide (V.str x = V.str y) = true then A else B :=
  ifw_neg (decide_eq_false fun z => h (by cases z; rfl)) a
section
variable {P : Program} {w : World} {K : PySem.W.Frag} {mg : Str → Option Value} {base : Heap}
theorem ok_has_size (T : Tx w K mg) : Prom P w K mg base CX0 1 "has_size" s_has_size ["rest"] spNone :=
  Prom.of T.d_has_size sc_has_size (fun vs H Q E h => absurd h id) (fun _ _ _ _ _ _ us hl => match us, hl with | [_], _ => rfl) (fun f cdv A outer s H vs Q E hr h => absurd h id)
theorem ok_unlike_sizes (T : Tx w K mg) : Prom P w K mg base CX0 1 "unlike_sizes" s_unlike_sizes ["rest", "longer"] spNone :=
  Prom.of T.d_unlike_sizes sc_unlike_sizes (fun vs H Q E h => absurd h id) (fun _ _ _ _ _ _ us hl => match us, hl with | [_, _], _ => rfl) (fun f cdv A outer s H vs Q E hr h => absurd h id)
theorem ok_shows_doubled (T : Tx w K mg) : Prom P w K mg base CX0 1 "shows_doubled" s_shows_doubled ["rest", "paper"] spNone :=
  Prom.of T.d_shows_doubled sc_shows_doubled (fun vs H Q E h => absurd h id) (fun _ _ _ _ _ _ us hl => match us, hl with | [_, _], _ => rfl) (fun f cdv A outer s H vs Q E hr h => absurd h id)
theorem ok_shows_stopped (T : Tx w K mg) : Prom P w K mg base CX0 1 "shows_stopped" s_shows_stopped ["rest", "paper"] spNone :=
  Prom.of T.d_shows_stopped sc_shows_stopped (fun vs H Q E h => absurd h id) (fun _ _ _ _ _ _ us hl => match us, hl with | [_, _], _ => rfl) (fun f cdv A outer s H vs Q E hr h => absurd h id)
theorem ok_holds (T : Tx w K mg) : Prom P w K mg base CX0 11 "holds" s_holds ["claim", "paper"] (spHolds K) := by
  refine Prom.of T.d_holds sc_holds (fun vs H Q E h => ?_) (fun _ _ _ _ _ _ us hl => match us, hl with | [_, _], _ => rfl) (fun f cdv A outer s H vs Q E hr h => ?_)
  · obtain ⟨v, u, d, e, rfl, _⟩ := h
    rfl
  · obtain ⟨v, u, d, e, rfl, hd, he, wo, tx, k⟩ := h
    refine ⟨_, (pss_cons (ps_if (PW.pt (pw_or (pt_not (pt_val (pe_callB call_isi (by rfl) T.b_isinstance (by decide +kernel) (pa_cons (pv 0) (pa_cons (pe_bltn (v := .ty "tuple") (by rfl) T.b_tuple (by decide +kernel) rfl) pa_nil))))) (pw_or (pt_cmp (pc_eqI (pe_callB call_len_seq (by rfl) T.b_len (by decide +kernel) (pa_cons (pv 0) pa_nil)) pe_int)) (pw_or1 (pt_not (pt_val (pe_callB call_isi (by rfl) T.b_isinstance (by decide +kernel) (pa_cons (pe_ix ix_tup (pv 0) pe_int (fun _ _ => rfl)) (pa_cons (pe_bltn (v := .ty "str") (by rfl) T.b_str (by decide +kernel) rfl) pa_nil))))))))) (pss_one (ps_ret pe_bl)) pss_nil)
      (pss_cons (ps_par (i := 2) (j := 3) (by rfl) sc_holds.nd rfl rfl (by decide) rfl rfl (pa_cons (pe_ix ix_tup (pv 0) pe_int (fun _ _ => rfl)) (pa_cons (pe_slice sl_tup (pv 0) (po_some pe_int) po_none) pa_nil)) (by rfl))
      (pss_cons (ps_if (pt_cmpR op_in_seq (pv 2) (pe_tup (pa_cons pe_str (pa_cons pe_str (pa_cons pe_str pa_nil)))) (by rfl)) (pss_cons (ps_if (PW.pt (pw_or (pt_not (pt_val (pe_callB call_isi (by rfl) T.b_isinstance (by decide +kernel) (pa_cons (pv 1) (pa_cons (pe_bltn (v := .ty "tuple") (by rfl) T.b_tuple (by decide +kernel) rfl) pa_nil))))) (pw_or1 (pt_cmp (pc_gt (pe_callB call_len_seq (by rfl) T.b_len (by decide +kernel) (pa_cons (pv 1) pa_nil)) pe_int))))) (pss_one (ps_ret pe_bl)) pss_nil)
      (pss_one (ps_ret (pe_ifExp (pt_cmpR op_eq (pv 2) pe_str (nomark _)) (pe_callP (ok_has_size T) (hr.mono (by decide)) (by rfl) pass0 (pa_cons (pv 3) pa_nil)) (pe_callP (ok_unlike_sizes T) (hr.mono (by decide)) (by rfl) pass0 (pa_cons (pv 3) (pa_cons (pe_cmpR op_eq (pv 2) pe_str (nomark _)) pa_nil))))))) pss_nil)
      (pss_cons (ps_if (pt_cmpR op_eq (pv 2) pe_str (nomark _)) (pss_one (ps_ret (pe_callP (ok_shows_payload T) (hr.mono (by decide)) (by rfl) pass0 (pa_cons (pv 3) (pa_cons (pv 1) pa_nil))))) pss_nil)
      (pss_cons (ps_if (pt_cmpR op_eq (pv 2) pe_str (nomark _)) (pss_one (ps_ret (pe_callP (ok_shows_missed T) (hr.mono (by decide)) (by rfl) pass0 (pa_cons (pv 3) (pa_cons (pv 1) pa_nil))))) pss_nil)
      (pss_cons (ps_if (pt_cmpR op_eq (pv 2) pe_str (nomark _)) (pss_one (ps_ret (pe_callP (ok_shows_doubled T) (hr.mono (by decide)) (by rfl) pass0 (pa_cons (pv 3) (pa_cons (pv 1) pa_nil))))) pss_nil)
      (pss_one (ps_ret (pe_and (pe_cmpR op_eq (pv 2) pe_str (nomark _)) (pe_one (pe_callP (ok_shows_stopped T) (hr.mono (by decide)) (by rfl) pass0 (pa_cons (pv 3) (pa_cons (pv 1) pa_nil))))))))))))), ?_⟩
    have fin : ∀ H', Same H H' → ¬ HoldsM d e → Q (.bl false) H' := fun H' s n => k _ _ (nb n) s
    repeat (first | (refine And.intro ?_ ?_; · (first | exact rfl | (show (_ : Int) ≤ _; omega) | (show (_ : Int) < _; omega) | assumption | exact SqL.of upd_same | exact SqT.of upd_same | exact upd_same | exact Drew.at_ (by assumption) | exact at_of (j := 0) rfl rfl | exact at_of (j := 1) rfl rfl | exact at_of (j := 2) rfl rfl | exact at_of (j := 3) rfl rfl | exact .inr (by assumption) | exact .inl (by assumption) | exact .ty _ | exact dp_ty (by assumption) | exact kit_strD _ | exact kit_tupD _ | exact kit_intD _ | exact kit_boolD _ | exact ⟨_, rfl⟩ | decide | omega | exact (show 0 ≤ sizeLine by decide) | exact (show 1 ≤ sizeLine by decide) | exact (show 2 ≤ sizeLine by decide) | exact (show 3 ≤ sizeLine by decide) | exact (show 4 ≤ sizeLine by decide) | exact (show 5 ≤ sizeLine by decide) | exact (show 6 ≤ sizeLine by decide) | decide +kernel)) | apply Exists.intro | refine iteT ?_ | refine iteF ?_)
    refine iteB (fun hb => ?_) (fun hb => ?_)
    · repeat (first | (refine And.intro ?_ ?_; · (first | exact rfl | (show (_ : Int) ≤ _; omega) | (show (_ : Int) < _; omega) | assumption | exact SqL.of upd_same | exact SqT.of upd_same | exact upd_same | exact Drew.at_ (by assumption) | exact at_of (j := 0) rfl rfl | exact at_of (j := 1) rfl rfl | exact at_of (j := 2) rfl rfl | exact at_of (j := 3) rfl rfl | exact .inr (by assumption) | exact .inl (by assumption) | exact .ty _ | exact dp_ty (by assumption) | exact kit_strD _ | exact kit_tupD _ | exact kit_intD _ | exact kit_boolD _ | exact ⟨_, rfl⟩ | decide | omega | exact (show 0 ≤ sizeLine by decide) | exact (show 1 ≤ sizeLine by decide) | exact (show 2 ≤ sizeLine by decide) | exact (show 3 ≤ sizeLine by decide) | exact (show 4 ≤ sizeLine by decide) | exact (show 5 ≤ sizeLine by decide) | exact (show 6 ≤ sizeLine by decide) | decide +kernel)) | apply Exists.intro | refine iteT ?_ | refine iteF ?_)
      refine fin _ (Same.refl H) fun ⟨ds, z⟩ => ?_
      rcases z with ⟨z, _⟩ | ⟨z, _⟩ <;> (rw [z] at hb; cases hb)
    obtain ⟨ds, rfl⟩ := tupD_of hb
    obtain ⟨a, xs, rfl, h1, h2⟩ : ∃ a xs, v = .ref a ∧ SqT K H a xs ∧ DpAll K H xs ds := by
      cases hd with
      | tup h1 h2 => exact ⟨_, _, rfl, h1, h2⟩
    repeat (first | (refine And.intro ?_ ?_; · (first | exact rfl | (show (_ : Int) ≤ _; omega) | (show (_ : Int) < _; omega) | assumption | exact SqL.of upd_same | exact SqT.of upd_same | exact upd_same | exact Drew.at_ (by assumption) | exact at_of (j := 0) rfl rfl | exact at_of (j := 1) rfl rfl | exact at_of (j := 2) rfl rfl | exact at_of (j := 3) rfl rfl | exact .inr (by assumption) | exact .inl (by assumption) | exact .ty _ | exact dp_ty (by assumption) | exact kit_strD _ | exact kit_tupD _ | exact kit_intD _ | exact kit_boolD _ | exact ⟨_, rfl⟩ | decide | omega | exact (show 0 ≤ sizeLine by decide) | exact (show 1 ≤ sizeLine by decide) | exact (show 2 ≤ sizeLine by decide) | exact (show 3 ≤ sizeLine by decide) | exact (show 4 ≤ sizeLine by decide) | exact (show 5 ≤ sizeLine by decide) | exact (show 6 ≤ sizeLine by decide) | decide +kernel)) | apply Exists.intro | refine iteT ?_ | refine iteF ?_)
    refine ifd (fun c => ?_) (fun c => ?_)
    · have c : xs = [] := List.length_eq_zero_iff.mp (by have : (xs.length : Int) = 0 := c; omega)
      subst c
      obtain rfl := DpAll.zero h2
      repeat (first | (refine And.intro ?_ ?_; · (first | exact rfl | (show (_ : Int) ≤ _; omega) | (show (_ : Int) < _; omega) | assumption | exact SqL.of upd_same | exact SqT.of upd_same | exact upd_same | exact Drew.at_ (by assumption) | exact at_of (j := 0) rfl rfl | exact at_of (j := 1) rfl rfl | exact at_of (j := 2) rfl rfl | exact at_of (j := 3) rfl rfl | exact .inr (by assumption) | exact .inl (by assumption) | exact .ty _ | exact dp_ty (by assumption) | exact kit_strD _ | exact kit_tupD _ | exact kit_intD _ | exact kit_boolD _ | exact ⟨_, rfl⟩ | decide | omega | exact (show 0 ≤ sizeLine by decide) | exact (show 1 ≤ sizeLine by decide) | exact (show 2 ≤ sizeLine by decide) | exact (show 3 ≤ sizeLine by decide) | exact (show 4 ≤ sizeLine by decide) | exact (show 5 ≤ sizeLine by decide) | exact (show 6 ≤ sizeLine by decide) | decide +kernel)) | apply Exists.intro | refine iteT ?_ | refine iteF ?_)
      refine fin _ (Same.refl H) fun ⟨ds, z⟩ => ?_
      rcases z with ⟨z, _⟩ | ⟨z, _⟩ <;> cases z
    cases h2 with
    | nil => exact absurd rfl c
    | cons hx h2 =>
    rename_i x xs d0 ds
    clear c hb
    repeat (first | (refine And.intro ?_ ?_; · (first | exact rfl | (show (_ : Int) ≤ _; omega) | (show (_ : Int) < _; omega) | assumption | exact SqL.of upd_same | exact SqT.of upd_same | exact upd_same | exact Drew.at_ (by assumption) | exact at_of (j := 0) rfl rfl | exact at_of (j := 1) rfl rfl | exact at_of (j := 2) rfl rfl | exact at_of (j := 3) rfl rfl | exact .inr (by assumption) | exact .inl (by assumption) | exact .ty _ | exact dp_ty (by assumption) | exact kit_strD _ | exact kit_tupD _ | exact kit_intD _ | exact kit_boolD _ | exact ⟨_, rfl⟩ | decide | omega | exact (show 0 ≤ sizeLine by decide) | exact (show 1 ≤ sizeLine by decide) | exact (show 2 ≤ sizeLine by decide) | exact (show 3 ≤ sizeLine by decide) | exact (show 4 ≤ sizeLine by decide) | exact (show 5 ≤ sizeLine by decide) | exact (show 6 ≤ sizeLine by decide) | decide +kernel)) | apply Exists.intro | refine iteT ?_ | refine iteF ?_)
    refine iteB (fun hb => ?_) (fun hb => ?_)
    · repeat (first | (refine And.intro ?_ ?_; · (first | exact rfl | (show (_ : Int) ≤ _; omega) | (show (_ : Int) < _; omega) | assumption | exact SqL.of upd_same | exact SqT.of upd_same | exact upd_same | exact Drew.at_ (by assumption) | exact at_of (j := 0) rfl rfl | exact at_of (j := 1) rfl rfl | exact at_of (j := 2) rfl rfl | exact at_of (j := 3) rfl rfl | exact .inr (by assumption) | exact .inl (by assumption) | exact .ty _ | exact dp_ty (by assumption) | exact kit_strD _ | exact kit_tupD _ | exact kit_intD _ | exact kit_boolD _ | exact ⟨_, rfl⟩ | decide | omega | exact (show 0 ≤ sizeLine by decide) | exact (show 1 ≤ sizeLine by decide) | exact (show 2 ≤ sizeLine by decide) | exact (show 3 ≤ sizeLine by decide) | exact (show 4 ≤ sizeLine by decide) | exact (show 5 ≤ sizeLine by decide) | exact (show 6 ≤ sizeLine by decide) | decide +kernel)) | apply Exists.intro | refine iteT ?_ | refine iteF ?_)
      refine fin _ (Same.refl H) fun ⟨ds, z⟩ => ?_
      rcases z with ⟨z, _⟩ | ⟨z, _⟩ <;> (cases z; cases hb)
    obtain ⟨word, rfl⟩ := strD_of hb
    cases hx
    repeat (first | (refine And.intro ?_ ?_; · (first | exact rfl | (show (_ : Int) ≤ _; omega) | (show (_ : Int) < _; omega) | assumption | exact SqL.of upd_same | exact SqT.of upd_same | exact upd_same | exact Drew.at_ (by assumption) | exact at_of (j := 0) rfl rfl | exact at_of (j := 1) rfl rfl | exact at_of (j := 2) rfl rfl | exact at_of (j := 3) rfl rfl | exact .inr (by assumption) | exact .inl (by assumption) | exact .ty _ | exact dp_ty (by assumption) | exact kit_strD _ | exact kit_tupD _ | exact kit_intD _ | exact kit_boolD _ | exact ⟨_, rfl⟩ | decide | omega | exact (show 0 ≤ sizeLine by decide) | exact (show 1 ≤ sizeLine by decide) | exact (show 2 ≤ sizeLine by decide) | exact (show 3 ≤ sizeLine by decide) | exact (show 4 ≤ sizeLine by decide) | exact (show 5 ≤ sizeLine by decide) | exact (show 6 ≤ sizeLine by decide) | decide +kernel)) | apply Exists.intro | refine iteT ?_ | refine iteF ?_)
    refine ⟨cut1_no, fun q hq => ?_⟩
    have s1 : Same H (upd H q (.tup xs)) := up hq
    have hS : SqT K (upd H q (.tup xs)) q xs := SqT.of upd_same
    rw [cut1]
    repeat (first | (refine And.intro ?_ ?_; · (first | exact rfl | (show (_ : Int) ≤ _; omega) | (show (_ : Int) < _; omega) | assumption | exact SqL.of upd_same | exact SqT.of upd_same | exact upd_same | exact Drew.at_ (by assumption) | exact at_of (j := 0) rfl rfl | exact at_of (j := 1) rfl rfl | exact at_of (j := 2) rfl rfl | exact at_of (j := 3) rfl rfl | exact .inr (by assumption) | exact .inl (by assumption) | exact .ty _ | exact dp_ty (by assumption) | exact kit_strD _ | exact kit_tupD _ | exact kit_intD _ | exact kit_boolD _ | exact ⟨_, rfl⟩ | decide | omega | exact (show 0 ≤ sizeLine by decide) | exact (show 1 ≤ sizeLine by decide) | exact (show 2 ≤ sizeLine by decide) | exact (show 3 ≤ sizeLine by decide) | exact (show 4 ≤ sizeLine by decide) | exact (show 5 ≤ sizeLine by decide) | exact (show 6 ≤ sizeLine by decide) | decide +kernel)) | apply Exists.intro | refine iteT ?_ | refine iteF ?_)
    intro p hp
    have s2 := up (o := .tup [.str "other", .str "longer", .str "size"]) hp
    have s3 : Same H _ := fun x o e => s2 _ _ (s1 _ _ e)
    have hT : SqT K (upd (upd H q (.tup xs)) p (.tup [.str "other", .str "longer", .str "size"])) p [.str "other", .str "longer", .str "size"] := SqT.of upd_same
    have hS := sqT_same s2 hS
    generalize upd (upd H q (.tup xs)) p (.tup [.str "other", .str "longer", .str "size"]) = G at *
    have h2 := DpAll.same s3 h2
    have he := Dp.same s3 he
    have fin : ∀ H', Same G H' → ¬ HoldsM (.tuple (.str word :: ds)) e → Q (.bl false) H' := fun H' s n => fin _ (fun x o y => s _ _ (s3 _ _ y)) n
    repeat (first | (refine And.intro ?_ ?_; · (first | exact rfl | (show (_ : Int) ≤ _; omega) | (show (_ : Int) < _; omega) | assumption | exact SqL.of upd_same | exact SqT.of upd_same | exact upd_same | exact Drew.at_ (by assumption) | exact at_of (j := 0) rfl rfl | exact at_of (j := 1) rfl rfl | exact at_of (j := 2) rfl rfl | exact at_of (j := 3) rfl rfl | exact .inr (by assumption) | exact .inl (by assumption) | exact .ty _ | exact dp_ty (by assumption) | exact kit_strD _ | exact kit_tupD _ | exact kit_intD _ | exact kit_boolD _ | exact ⟨_, rfl⟩ | decide | omega | exact (show 0 ≤ sizeLine by decide) | exact (show 1 ≤ sizeLine by decide) | exact (show 2 ≤ sizeLine by decide) | exact (show 3 ≤ sizeLine by decide) | exact (show 4 ≤ sizeLine by decide) | exact (show 5 ≤ sizeLine by decide) | exact (show 6 ≤ sizeLine by decide) | decide +kernel)) | apply Exists.intro | refine iteT ?_ | refine iteF ?_)
    have tx : ∀ x ∈ ds, TextOk x := fun x hx => tx _ rfl x (.tail _ hx)
    obtain ⟨n1, n2, n3, n4, n5⟩ := wo _ _ rfl
    refine ifs (fun c => ?_) (fun c => ?_)
    · rcases c with c | c | c
      · exact absurd c n1
      · exact absurd c n2
      · exact absurd c n3
    by_cases cp : word = "payload"
    · subst cp
      repeat (first | (refine And.intro ?_ ?_; · (first | exact rfl | (show (_ : Int) ≤ _; omega) | (show (_ : Int) < _; omega) | assumption | exact SqL.of upd_same | exact SqT.of upd_same | exact upd_same | exact Drew.at_ (by assumption) | exact at_of (j := 0) rfl rfl | exact at_of (j := 1) rfl rfl | exact at_of (j := 2) rfl rfl | exact at_of (j := 3) rfl rfl | exact .inr (by assumption) | exact .inl (by assumption) | exact .ty _ | exact dp_ty (by assumption) | exact kit_strD _ | exact kit_tupD _ | exact kit_intD _ | exact kit_boolD _ | exact ⟨_, rfl⟩ | decide | omega | exact (show 0 ≤ sizeLine by decide) | exact (show 1 ≤ sizeLine by decide) | exact (show 2 ≤ sizeLine by decide) | exact (show 3 ≤ sizeLine by decide) | exact (show 4 ≤ sizeLine by decide) | exact (show 5 ≤ sizeLine by decide) | exact (show 6 ≤ sizeLine by decide) | decide +kernel)) | apply Exists.intro | refine iteT ?_ | refine iteF ?_)
      intro r H' hr s4
      refine k r H' (hr.trans ⟨fun z => ⟨ds, .inl ⟨rfl, z⟩⟩, fun ⟨ds', z⟩ => ?_⟩) (fun x o e => s4 _ _ (s3 _ _ e))
      rcases z with ⟨z, zz⟩ | ⟨z, _⟩ <;> cases z
      exact zz
    refine ⟨_, rfl, rfl, _, rfl, eqw_neg cp ?_⟩
    by_cases cm : word = "missed"
    · subst cm
      repeat (first | (refine And.intro ?_ ?_; · (first | exact rfl | (show (_ : Int) ≤ _; omega) | (show (_ : Int) < _; omega) | assumption | exact SqL.of upd_same | exact SqT.of upd_same | exact upd_same | exact Drew.at_ (by assumption) | exact at_of (j := 0) rfl rfl | exact at_of (j := 1) rfl rfl | exact at_of (j := 2) rfl rfl | exact at_of (j := 3) rfl rfl | exact .inr (by assumption) | exact .inl (by assumption) | exact .ty _ | exact dp_ty (by assumption) | exact kit_strD _ | exact kit_tupD _ | exact kit_intD _ | exact kit_boolD _ | exact ⟨_, rfl⟩ | decide | omega | exact (show 0 ≤ sizeLine by decide) | exact (show 1 ≤ sizeLine by decide) | exact (show 2 ≤ sizeLine by decide) | exact (show 3 ≤ sizeLine by decide) | exact (show 4 ≤ sizeLine by decide) | exact (show 5 ≤ sizeLine by decide) | exact (show 6 ≤ sizeLine by decide) | decide +kernel)) | apply Exists.intro | refine iteT ?_ | refine iteF ?_)
      intro r H' hr s4
      refine k r H' (hr.trans ⟨fun z => ⟨ds, .inr ⟨rfl, z⟩⟩, fun ⟨ds', z⟩ => ?_⟩) (fun x o e => s4 _ _ (s3 _ _ e))
      rcases z with ⟨z, _⟩ | ⟨z, zz⟩ <;> cases z
      exact zz
    refine ⟨_, rfl, rfl, _, rfl, eqw_neg cm ?_⟩
    refine ⟨_, rfl, rfl, _, rfl, eqw_neg n4 ?_⟩
    refine ⟨_, rfl, rfl, _, rfl, eqw_neg n5 ?_⟩
    refine fin _ (Same.refl G) fun ⟨ds', z⟩ => ?_
    rcases z with ⟨z, _⟩ | ⟨z, _⟩
    · cases z
      exact cp rfl
    · cases z
      exact cm rfl
end
def Wr.use : Wr → Int
  | .coded m c => m * c
  | .pieces m _ => m
  | .cut m _ => m
  | .filled m => m
  | _ => 1
theorem step_use (p : Int) (a : Wr) : stepF p a = p * a.use := by
  cases a <;> simp [stepF, Wr.use, Int.mul_assoc]
theorem use_pos {a : Wr} (h : a.ok) : 1 ≤ a.use := by
  cases a with
  | coded m c =>
    simp only [Wr.ok] at h
    simp only [Wr.use]
    have := Int.mul_le_mul h.1 (show 1 ≤ c by omega) (by decide) (by omega)
    omega
  | _ => simp only [Wr.ok] at h; simp only [Wr.use]; omega
theorem fine_app (ws : List Wr) (a : Wr) : fineL (ws ++ [a]) = fineL ws * a.use := by
  unfold fineL
  rw [List.foldl_append]
  exact step_use _ a
theorem fine_pos : ∀ {ws : List Wr}, (∀ a ∈ ws, a.ok) → ∀ {p : Int}, 1 ≤ p → p ≤ ws.foldl stepF p
  | [], _, p, _ => Int.le_refl p
  | a :: ws, h, p, hp => by
    have u := use_pos (h a (List.mem_cons_self ..))
    have m := Int.mul_le_mul_of_nonneg_left u (show 0 ≤ p by omega)
    rw [Int.mul_one] at m
    have e : stepF p a = p * a.use := step_use p a
    have ih := fine_pos (ws := ws) (fun x hx => h x (List.mem_cons_of_mem _ hx)) (p := stepF p a) (by omega)
    show p ≤ ws.foldl stepF (stepF p a)
    omega
theorem fine_take {ws : List Wr} (h : ∀ a ∈ ws, a.ok) (i : Nat) : fineL (ws.take i) ≤ fineL ws := by
  have e : fineL ws = (ws.drop i).foldl stepF (fineL (ws.take i)) := by
    unfold fineL
    rw [← List.foldl_append, List.take_append_drop]
  rw [e]
  exact fine_pos (fun x hx => h x (List.mem_of_mem_drop hx)) (fine_pos (fun x hx => h x (List.mem_of_mem_take hx)) (by decide))
/-- the numbers from lo on whose square is within the room, among so many -/
def sqs (r : Int) (i : Nat) : List Int := ((List.range i).map fun (j : Nat) => 1 + (j : Int)).filter fun z => decide (z * z ≤ r)
theorem sqs_succ (r : Int) (i : Nat) : sqs r (i + 1) = sqs r i ++ (if (1 + (i : Int)) * (1 + (i : Int)) ≤ r then [1 + (i : Int)] else []) := by
  unfold sqs
  rw [List.range_succ, List.map_append, List.filter_append]
  congr 1
  by_cases c : (1 + (i : Int)) * (1 + (i : Int)) ≤ r <;> simp [c]
theorem sqs_len {r : Int} (hr : 1 ≤ r) : ∀ i : Nat, (sqs r i).length ≤ i ∧ (1 ≤ i → 1 ≤ (sqs r i).length) ∧ ∀ z : Int, 1 ≤ z → z ≤ (sqs r i).length → z * z ≤ r
  | 0 => ⟨Nat.zero_le _, fun h => absurd h (by decide), fun z h0 h1 => by
    have e : (sqs r 0).length = 0 := rfl
    rw [e] at h1
    omega⟩
  | i + 1 => by
    obtain ⟨h1, h2, h3⟩ := sqs_len hr i
    have e := sqs_succ r i
    by_cases c : (1 + (i : Int)) * (1 + (i : Int)) ≤ r
    · rw [e, if_pos c, List.length_append]
      refine ⟨by simp; omega, fun _ => by simp, fun z z0 z1 => ?_⟩
      have zi : z ≤ 1 + (i : Int) := by
        simp at z1
        omega
      exact Int.le_trans (Int.mul_le_mul zi zi (by omega) (by omega)) c
    · rw [e, if_neg c, List.append_nil]
      refine ⟨by omega, fun _ => ?_, h3⟩
      by_cases i0 : i = 0
      · exfalso
        apply c
        rw [i0]
        simp
        omega
      · exact h2 (by omega)
/-! ### the law's pool: what is drawn lies in its range, and nothing else is told of it -/
def PurseAt (H : Hp) (p : Addr) : Prop := ∃ d x y : Int, H p = some (.lst [.int d, .int x, .int y]) ∧ 0 ≤ d ∧ 0 ≤ x ∧ x < 2147483648 ∧ 0 ≤ y ∧ y < 2147483648
theorem PurseAt.of {H : Hp} {p : Addr} {d x y : Int} (h : H p = some (.lst [.int d, .int x, .int y])) (h1 : 0 ≤ d) (h2 : 0 ≤ x) (h3 : x < 2147483648) (h4 : 0 ≤ y) (h5 : y < 2147483648) : PurseAt H p := ⟨d, x, y, h, h1, h2, h3, h4, h5⟩
structure Drew (p : Addr) (H H' : Hp) : Prop where
  at_ : PurseAt H' p
  kp : Kp p H H'
theorem Drew.refl {p : Addr} {H : Hp} (h : PurseAt H p) : Drew p H H := ⟨h, Kp.refl p H⟩
theorem Drew.trans {p : Addr} {H H1 H2 : Hp} (a : Drew p H H1) (b : Drew p H1 H2) : Drew p H H2 := ⟨b.at_, a.kp.trans b.kp⟩
theorem PurseAt.same {p : Addr} {H H' : Hp} (h : PurseAt H p) (s : Same H H') : PurseAt H' p := by
  obtain ⟨m, d, c, e, r⟩ := h
  exact ⟨m, d, c, s _ _ e, r⟩
theorem Drew.same {p : Addr} {H H1 H2 : Hp} (a : Drew p H H1) (b : Same H1 H2) : Drew p H H2 := ⟨a.at_.same b, fun x o n h => b _ _ (a.kp x o n h)⟩
theorem Drew.new {p q : Addr} {H H' : Hp} {o : HO} (a : Drew p H H') (h : H' q = none) : Drew p H (upd H' q o) := a.same fun y u e => by
  rw [upd_ne (ne_of_none e h)]
  exact e
theorem PurseAt.lst {p : Addr} {H : Hp} (h : PurseAt H p) : ∃ xs, H p = some (.lst xs) := by
  obtain ⟨_, _, _, e, _⟩ := h
  exact ⟨_, e⟩
theorem PurseAt.ne {p l : Addr} {H : Hp} (h : PurseAt H p) (hl : H l = none) : l ≠ p := by
  obtain ⟨_, e⟩ := h.lst
  exact Ne.symm (ne_of_none e hl)
theorem new_before {p q : Addr} {H H1 : Hp} (d : Drew p H H1) (hp : PurseAt H p) (hq : H1 q = none) : H q = none := by
  cases e : H q with
  | none => rfl
  | some o =>
    by_cases z : q = p
    · obtain ⟨_, e2⟩ := d.at_.lst
      rw [z, e2] at hq
      cases hq
    · rw [d.kp _ _ z e] at hq
      cases hq
theorem same_before {q : Addr} {H H1 : Hp} (d : Same H H1) (hq : H1 q = none) : H q = none := by
  cases e : H q with
  | none => rfl
  | some o =>
    rw [d _ _ e] at hq
    cases hq
/-- what is no list stays -/
theorem Drew.keep {p q : Addr} {H H1 : Hp} {o : HO} (d : Drew p H H1) (hp : PurseAt H p) (h : H q = some o) (n : ∀ xs, o ≠ .lst xs) : H1 q = some o := by
  obtain ⟨xs, e⟩ := hp.lst
  exact d.kp _ _ (fun z => by rw [z, e] at h; cases h; exact n xs rfl) h
def spCell (K : PySem.W.Frag) : Sp := fun vs H Q _ => ∃ (a : Addr) (ns : List Int) (k : Int), vs = [.ref a, .int k] ∧ SqL K H a (ns.map V.int) ∧ 0 ≤ k ∧ k ≤ 1000 ∧ ∀ z, Q (.int z) H
def spPurse : Sp := fun vs H Q _ => ∃ c : Int, vs = [.int c] ∧ ∀ p H', H p = none → Same H H' → PurseAt H' p → Q (.ref p) H'
def spTake : Sp := fun vs H Q _ => ∃ (p : Addr) (n : Int), vs = [.ref p, .int n] ∧ PurseAt H p ∧ 0 < n ∧ n ≤ 1000000000000000000000000000000 ∧ ∀ r H', 0 ≤ r → r < n → Drew p H H' → Q (.int r) H'
def spDraw (lo hi : Int) : Sp := fun vs H Q _ => ∃ (p : Addr), vs = [.ref p] ∧ PurseAt H p ∧ ∀ r H', lo ≤ r → r ≤ hi → Drew p H H' → Q (.int r) H'
def spLLen : Sp := fun vs H Q _ => ∃ (p : Addr) (b : Int), vs = [.ref p, .int b] ∧ PurseAt H p ∧ 2 ≤ b ∧ b ≤ 256 ∧ ∀ r H', 0 ≤ r → r ≤ 10 ^ 60 - 1 → Drew p H H' → Q (.int r) H'
def spConst : Sp := fun vs H Q _ => ∃ (p : Addr) (m : Int), vs = [.ref p, .int m] ∧ PurseAt H p ∧ 2 ≤ m ∧ m ≤ 1000 ∧ ∀ r H', 0 ≤ r → r ≤ m → Drew p H H' → Q (.int r) H'
theorem item_int {ns : List Int} {i : Nat} {x : V} (h : (ns.map V.int)[i]? = some x) : ∃ z, x = .int z := by
  rw [List.getElem?_map] at h
  cases e : ns[i]? with
  | none =>
    rw [e] at h
    cases h
  | some z =>
    rw [e] at h
    exact ⟨z, (Option.some.inj h).symm⟩
section
variable {P : Program} {w : World} {K : PySem.W.Frag} {mg : Str → Option Value} {base : Heap}
theorem ok_L_cell (T : Tx w K mg) : Prom P w K mg base CX0 1 "_law_cell" s_L_cell ["_law_cells", "_law_k"] (spCell K) := by
  refine Prom.of T.d_L_cell sc_L_cell (fun vs H Q E h => ?_) (fun _ _ _ _ _ _ us hl => match us, hl with | [_, _], _ => rfl) (fun f cdv A outer s H vs Q E hr h => ?_)
  · obtain ⟨a, ns, n, rfl, _⟩ := h
    rfl
  · obtain ⟨a, ns, n, rfl, hS, h0, h1, k⟩ := h
    have d0 : (0 : Int) < 2147483563 := by decide
    refine ⟨_, (pss_cons (ps_if (pt_cmp (pc_lt (pv 1) (pe_callB call_len_seq (by rfl) T.b_len (by decide +kernel) (pa_cons (pv 0) pa_nil)))) (pss_one (ps_ret (pe_ix ix_list (pv 0) (pv 1) (fun _ _ => rfl)))) pss_nil)
      (pss_cons (ps_set (i := 2) sc_L_cell.nd rfl (Or.inl rfl) (pe_op op_mod (pe_callTy call_int1 (by rfl) T.b_int (by decide +kernel) (pa_cons (pe_op op_mul (pe_op op_mul (pe_op op_add (pv 1) pe_int) (pe_op op_add (pv 1) pe_int)) pe_int) pa_nil)) pe_int))
      (pss_cons (ps_for PassesOwn.never (by rfl) (pi_list (pv 0)) (pg_name (i := 3) sc_L_cell.nd rfl (Or.inl rfl)) (pss_one (ps_set (i := 2) sc_L_cell.nd rfl (Or.inl rfl) (pe_op op_mod (pe_callTy call_int1 (by rfl) T.b_int (by decide +kernel) (pa_cons (pe_op op_add (pe_op op_add (pe_op op_mul (pv 2) pe_int) (pv 3)) pe_int) pa_nil)) pe_int))))
      (pss_one (ps_ret (pe_op op_mod (pe_callTy call_int1 (by rfl) T.b_int (by decide +kernel) (pa_cons (pe_op op_add (pe_op op_mul (pv 2) pe_int) (pv 1)) pa_nil)) pe_int)))))), ?_⟩
    refine ⟨_, rfl, _, rfl, _, _, rfl, .inl hS, _, _, rfl, rfl, _, rfl, ifd (fun c => ?_) (fun c => ?_)⟩
    · rw [List.length_map] at c
      have hi : n.toNat < ns.length := by omega
      obtain ⟨z, hz⟩ : ∃ z, ns[n.toNat]? = some z := ⟨_, List.getElem?_eq_getElem hi⟩
      have ez : (ns.map V.int)[n.toNat]? = some (V.int z) := by rw [List.getElem?_map, hz]; rfl
      exact ⟨_, rfl, _, rfl, _, _, _, _, rfl, rfl, hS, at_of (show n = ((n.toNat : Nat) : Int) by omega) ez, k z⟩
    · refine ⟨_, rfl, _, _, rfl, rfl, _, rfl, _, _, rfl, rfl, _, _, rfl, rfl, .inl ⟨by omega, by omega⟩, _, _, rfl, rfl, .inr ⟨by decide, by decide⟩, .inl ⟨_, rfl, _, _, rfl, rfl, d0, ?_⟩⟩
      refine ⟨_, rfl, a, rfl, ⟨_, hS⟩, for_list (K := K) (a := a) (xs := ns.map V.int) (fun i σ H' => H' = H ∧ ∃ m v, σ = [some (.ref a), some (.int n), some (.int m), v]) ⟨rfl, _, none, rfl⟩ (fun i σ H' _ h => by rw [h.1]; exact hS) ?_ ?_⟩
      · rintro i x σ H' hi ⟨rfl, m, v, rfl⟩
        obtain ⟨z, rfl⟩ := item_int hi
        refine ⟨_, rfl, _, _, rfl, rfl, .inr ⟨by decide, by decide⟩, _, rfl, _, _, rfl, rfl, _, _, rfl, rfl, .inl ⟨_, rfl, ?_⟩⟩
        exact ⟨_, _, rfl, rfl, d0, rfl, _, _, rfl⟩
      · rintro σ H' ⟨rfl, m, v, rfl⟩
        exact ⟨_, rfl, _, _, rfl, rfl, .inr ⟨by decide, by decide⟩, _, rfl, _, _, rfl, rfl, .inl ⟨_, rfl, _, _, rfl, rfl, d0, k _⟩⟩
theorem ok_L_pool (T : Tx w K mg) : Prom P w K mg base CX0 1 "_law_pool" s_L_pool ["_law_cell_here"] spPurse := by
  refine Prom.of T.d_L_pool sc_L_pool (fun vs H Q E h => ?_) (fun _ _ _ _ _ _ us hl => match us, hl with | [_], _ => rfl) (fun f cdv A outer s H vs Q E hr h => ?_)
  · obtain ⟨c, rfl, _⟩ := h
    rfl
  · obtain ⟨c, rfl, k⟩ := h
    refine ⟨_, (pss_cons (ps_set (i := 1) sc_L_pool.nd rfl (Or.inl rfl) (pe_ifExp (PW.pt (pw_or (pt_cmp (pc_lt (pv 0) pe_int)) (pw_or1 (pt_cmp (pc_ge (pv 0) (pe_op op_pow pe_int pe_int)))))) (pe_callB call_abs (by rfl) T.b_abs (by decide +kernel) (pa_cons (pv 0) pa_nil)) pe_int))
      (pss_one (ps_ret (pe_lst (pa_cons (pv 1) (pa_cons (pe_op op_add pe_int (pe_op op_mod (pe_callTy call_int1 (by rfl) T.b_int (by decide +kernel) (pa_cons (pe_op op_add (pe_op op_mul (pv 0) pe_int) pe_int) pa_nil)) pe_int)) (pa_cons (pe_op op_add pe_int (pe_op op_mod (pe_callTy call_int1 (by rfl) T.b_int (by decide +kernel) (pa_cons (pe_op op_add (pv 0) pe_int) pa_nil)) pe_int)) pa_nil))))))), ?_⟩
    have fin : ∀ d : Int, 0 ≤ d → ∀ p, H p = none → Q (.ref p) (upd H p (.lst [.int d, .int (1 + (c * 3 + 71) % 2147483398), .int (1 + (c + 5923) % 2147483562)])) := fun d hd p hp => by
      have a1 := Int.emod_nonneg (c * 3 + 71) (show (2147483398 : Int) ≠ 0 by decide)
      have a2 := Int.emod_lt_of_pos (c * 3 + 71) (show (0 : Int) < 2147483398 by decide)
      have b1 := Int.emod_nonneg (c + 5923) (show (2147483562 : Int) ≠ 0 by decide)
      have b2 := Int.emod_lt_of_pos (c + 5923) (show (0 : Int) < 2147483562 by decide)
      exact k p _ hp (fun b o e => by rw [upd_ne (ne_of_none e hp)]; exact e) (PurseAt.of upd_same hd (by omega) (by omega) (by omega) (by omega))
    refine ⟨_, rfl, _, _, rfl, rfl, _, rfl, ifd (fun h1 => iteT ?_) (fun h1 => ?_)⟩
    · refine ⟨_, rfl, _, rfl, ?_⟩
      refine ⟨_, rfl, _, rfl, _, _, rfl, rfl, .inr ⟨by decide, by decide⟩, _, _, rfl, rfl, .inl ⟨_, rfl, _, _, rfl, rfl, (by show (0 : Int) < 2147483398; decide), _, _, rfl, rfl, ?_⟩⟩
      refine ⟨_, rfl, _, _, rfl, rfl, .inl ⟨_, rfl, _, _, rfl, rfl, (by show (0 : Int) < 2147483562; decide), _, _, rfl, rfl, (by show 3 ≤ sizeLine; decide), fun p hp => fin _ ?_ p hp⟩⟩
      split <;> omega
    refine ⟨_, rfl, _, _, rfl, rfl, ⟨by decide, by decide, by decide⟩, _, _, rfl, rfl, _, rfl, ifd (fun h2 => ?_) (fun h2 => ?_)⟩
    · refine ⟨_, rfl, _, rfl, ?_⟩
      refine ⟨_, rfl, _, rfl, _, _, rfl, rfl, .inr ⟨by decide, by decide⟩, _, _, rfl, rfl, .inl ⟨_, rfl, _, _, rfl, rfl, (by show (0 : Int) < 2147483398; decide), _, _, rfl, rfl, ?_⟩⟩
      refine ⟨_, rfl, _, _, rfl, rfl, .inl ⟨_, rfl, _, _, rfl, rfl, (by show (0 : Int) < 2147483562; decide), _, _, rfl, rfl, (by show 3 ≤ sizeLine; decide), fun p hp => fin _ ?_ p hp⟩⟩
      split <;> omega
    · refine ⟨_, rfl, ?_⟩
      refine ⟨_, rfl, _, _, rfl, rfl, .inr ⟨by decide, by decide⟩, _, _, rfl, rfl, .inl ⟨_, rfl, _, _, rfl, rfl, (by show (0 : Int) < 2147483398; decide), _, _, rfl, rfl, ?_⟩⟩
      refine ⟨_, rfl, _, _, rfl, rfl, .inl ⟨_, rfl, _, _, rfl, rfl, (by show (0 : Int) < 2147483562; decide), _, _, rfl, rfl, (by show 3 ≤ sizeLine; decide), fun p hp => fin _ (Int.le_refl 0) p hp⟩⟩
theorem ok_L_draw (T : Tx w K mg) : Prom P w K mg base CX0 1 "_law_draw" s_L_draw ["_law_pool_here", "_law_many"] spTake := by
  refine Prom.of T.d_L_draw sc_L_draw (fun vs H Q E h => ?_) (fun _ _ _ _ _ _ us hl => match us, hl with | [_, _], _ => rfl) (fun f cdv A outer s H vs Q E hr h => ?_)
  · obtain ⟨p, n, rfl, _⟩ := h
    rfl
  · obtain ⟨p, n, rfl, ⟨d, x, y, hp, h0, h1, h2, h3, h4⟩, hn, hn2, k⟩ := h
    refine ⟨_, (pss_cons (ps_if (pt_cmp (pc_gt (pe_ix ix_list (pv 0) pe_int (fun _ _ => rfl)) pe_int)) (pss_cons (ps_asg (pe_callB call_divmodW (by rfl) T.b_divmod (by decide +kernel) (pa_cons (pe_ix ix_list (pv 0) pe_int (fun _ _ => rfl)) (pa_cons (pv 1) pa_nil))) (pg_tup rfl (pgs_cons (pg_sub (pv 0) pe_int set_list) (pgs_cons (pg_name (i := 2) sc_L_draw.nd rfl (Or.inl rfl)) pgs_nil))))
      (pss_one (ps_ret (pv 2)))) pss_nil)
      (pss_cons (ps_asg (pe_op op_mod (pe_callTy call_int1 (by rfl) T.b_int (by decide +kernel) (pa_cons (pe_op op_mul (pe_ix ix_list (pv 0) pe_int (fun _ _ => rfl)) pe_int) pa_nil)) pe_int) (pg_sub (pv 0) pe_int set_list))
      (pss_cons (ps_asg (pe_op op_mod (pe_callTy call_int1 (by rfl) T.b_int (by decide +kernel) (pa_cons (pe_op op_mul (pe_ix ix_list (pv 0) pe_int (fun _ _ => rfl)) pe_int) pa_nil)) pe_int) (pg_sub (pv 0) pe_int set_list))
      (pss_one (ps_ret (pe_op op_mod (pe_callTy call_int1 (by rfl) T.b_int (by decide +kernel) (pa_cons (pe_op op_fdiv (pe_op op_add (pe_ix ix_list (pv 0) pe_int (fun _ _ => rfl)) (pe_ix ix_list (pv 0) pe_int (fun _ _ => rfl))) pe_int) pa_nil)) (pv 1))))))), ?_⟩
    refine ⟨_, rfl, _, _, _, _, rfl, rfl, SqL.of hp, rfl, _, _, rfl, rfl, _, rfl, ifd (fun c1 => ?_) (fun c1 => ?_)⟩
    · have c1 : d > 0 := c1
      refine ⟨_, rfl, _, _, _, _, rfl, rfl, SqL.of hp, rfl, _, rfl, _, _, rfl, divp_small hn hn2, fun q hq => ?_⟩
      have nq : p ≠ q := ne_of_none hp hq
      refine ⟨q, _, rfl, SqT.of upd_same, rfl, _, _, rfl, ?_⟩
      refine ⟨_, rfl, _, _, _, _, rfl, rfl, (by rw [upd_ne nq]; exact hp), rfl, ?_⟩
      refine ⟨_, _, rfl, rfl, ?_⟩
      refine ⟨_, rfl, k _ _ (Int.emod_nonneg _ (by omega)) (Int.emod_lt_of_pos _ hn) ⟨PurseAt.of upd_same (Int.ediv_nonneg (by omega) (by omega)) h1 h2 h3 h4, ?_⟩⟩
      exact Kp.set (Kp.new (Kp.refl p H) hq)
    · refine ⟨_, rfl, _, _, _, _, rfl, rfl, SqL.of hp, rfl, _, _, rfl, rfl, .inr ⟨by decide, by decide⟩, .inl ⟨_, rfl, _, _, rfl, rfl, (by show (0 : Int) < 2147483399; decide), ?_⟩⟩
      refine ⟨_, rfl, _, _, _, _, rfl, rfl, hp, rfl, ?_⟩
      have a1 := Int.emod_nonneg (x * 40692) (show (2147483399 : Int) ≠ 0 by decide)
      have a2 := Int.emod_lt_of_pos (x * 40692) (show (0 : Int) < 2147483399 by decide)
      have e1 : (upd H p (.lst ([V.int d, V.int x, V.int y].set 1 (V.int (x * 40692 % 2147483399))))) p = some (.lst [.int d, .int (x * 40692 % 2147483399), .int y]) := upd_same
      refine ⟨_, rfl, _, _, _, _, rfl, rfl, SqL.of e1, rfl, _, _, rfl, rfl, .inr ⟨by decide, by decide⟩, .inl ⟨_, rfl, _, _, rfl, rfl, (by show (0 : Int) < 2147483563; decide), ?_⟩⟩
      refine ⟨_, rfl, _, _, _, _, rfl, rfl, e1, rfl, ?_⟩
      have b1 := Int.emod_nonneg (y * 40014) (show (2147483563 : Int) ≠ 0 by decide)
      have b2 := Int.emod_lt_of_pos (y * 40014) (show (0 : Int) < 2147483563 by decide)
      have e2 : (upd (upd H p (.lst ([V.int d, V.int x, V.int y].set 1 (V.int (x * 40692 % 2147483399))))) p (.lst ([V.int d, V.int (x * 40692 % 2147483399), V.int y].set 2 (V.int (y * 40014 % 2147483563))))) p = some (.lst [.int d, .int (x * 40692 % 2147483399), .int (y * 40014 % 2147483563)]) := upd_same
      refine ⟨_, rfl, _, _, _, _, rfl, rfl, SqL.of e2, rfl, _, rfl, _, _, _, _, rfl, rfl, SqL.of e2, rfl, _, _, rfl, rfl, _, _, rfl, rfl, ⟨by decide, by decide⟩, .inl ⟨_, rfl, _, rfl, _, _, rfl, rfl, hn, ?_⟩⟩
      exact k _ _ (Int.emod_nonneg _ (by omega)) (Int.emod_lt_of_pos _ hn) ⟨PurseAt.of e2 h0 a1 (by omega) b1 (by omega), Kp.set (Kp.set (Kp.refl p H))⟩
end
section
variable {P : Program} {w : World} {K : PySem.W.Frag} {mg : Str → Option Value} {base : Heap}
theorem ok_L_far (T : Tx w K mg) : Prom P w K mg base CX0 2 "_law_far" s_L_far ["_law_pool_here"] (spDraw 0 (10 ^ 60 - 1)) := by
  refine Prom.of T.d_L_far sc_L_far (fun vs H Q E h => ?_) (fun _ _ _ _ _ _ us hl => match us, hl with | [_], _ => rfl) (fun f cdv A outer s H vs Q E hr h => ?_)
  · obtain ⟨p, rfl, _⟩ := h
    rfl
  · obtain ⟨p, rfl, hp, k⟩ := h
    refine ⟨_, (pss_cons (ps_par (i := 1) (j := 2) (by rfl) sc_L_far.nd rfl rfl (by decide) rfl rfl (pa_cons (pe_callP (ok_L_draw T) (hr.mono (by decide)) (by rfl) pass0 (pa_cons (pv 0) (pa_cons pe_int pa_nil))) (pa_cons pe_int pa_nil)) (by rfl))
      (pss_cons (ps_for PassesOwn.never (by rfl) (pi_range1 (by rfl) T.b_range (pa_cons pe_int pa_nil)) (pg_name (i := 3) sc_L_far.nd rfl (Or.inl rfl)) (pss_one (ps_set (i := 2) sc_L_far.nd rfl (Or.inl rfl) (pe_op op_add (pe_op op_mul (pv 2) (pe_op op_pow pe_int pe_int)) (pe_callP (ok_L_draw T) (hr.mono (by decide)) (by rfl) pass0 (pa_cons (pv 0) (pa_cons (pe_op op_pow pe_int pe_int) pa_nil)))))))
      (pss_one (ps_ret (pe_op op_fdivW (pv 2) (pe_ix ix_list (pe_lst (pa_cons pe_int (pa_cons (pe_op op_pow pe_int pe_int) (pa_cons (pe_op op_pow pe_int pe_int) (pa_cons (pe_op op_pow pe_int pe_int) (pa_cons (pe_op op_pow pe_int pe_int) pa_nil)))))) (pv 1) (fun _ _ => rfl))))))), ?_⟩
    refine ⟨_, rfl, p, _, rfl, hp, by decide, by decide, fun r H1 r0 r1 d1 => ⟨_, _, rfl, ?_⟩⟩
    refine ⟨10, rfl, by decide, by decide, for_range (lo := 0) (n := 10) (fun i σ H' => Drew p H H' ∧ ∃ (m : Int) (v : Option V), 0 ≤ m ∧ m < 10 ^ (6 * i) ∧ σ = [some (.ref p), some (.int r), some (.int m), v]) ⟨d1, 0, none, by decide, by decide, rfl⟩ ?_ ?_⟩
    · rintro i σ H' hi ⟨hd, m, v, m0, m1, rfl⟩
      refine ⟨_, rfl, _, _, rfl, rfl, ⟨by decide, by decide, by decide⟩, _, _, rfl, rfl, .inr ⟨by decide, by decide⟩, ?_⟩
      refine ⟨_, rfl, _, _, rfl, rfl, ⟨by decide, by decide, by decide⟩, p, _, rfl, hd.at_, by decide, by decide, fun y H2 y0 y1 d2 => ⟨_, _, rfl, rfl, ?_⟩⟩
      have e6 : (10 : Int) ^ (6 : Int).toNat = 1000000 := by decide
      have y1 : y < 1000000 := by rw [e6] at y1; exact y1
      have e : (10 : Int) ^ (6 * (i + 1)) = 10 ^ (6 * i) * 1000000 := by rw [Nat.mul_add, Int.pow_add]; rfl
      refine ⟨hd.trans d2, m * 10 ^ (6 : Int).toNat + y, _, ?_, ?_, rfl⟩
      · rw [e6]
        omega
      · rw [e6, e]
        omega
    · rintro σ H' ⟨hd, m, v, m0, m1, rfl⟩
      have m1 : m < 10 ^ 60 := m1
      refine ⟨_, rfl, _, _, rfl, rfl, ⟨by decide, by decide, by decide⟩, _, _, rfl, rfl, ⟨by decide, by decide, by decide⟩, _, _, rfl, rfl, ⟨by decide, by decide, by decide⟩, _, _, rfl, rfl, ⟨by decide, by decide, by decide⟩, (by show 5 ≤ sizeLine; decide), fun l hl => ?_⟩
      have d2 := hd.new (o := .lst [.int 1, .int (10 ^ (13 : Int).toNat), .int (10 ^ (30 : Int).toNat), .int (10 ^ (44 : Int).toNat), .int (10 ^ (52 : Int).toNat)]) hl
      obtain ⟨c, hc, c0, c1⟩ : ∃ c : Int, [V.int 1, V.int (10 ^ (13 : Int).toNat), V.int (10 ^ (30 : Int).toNat), V.int (10 ^ (44 : Int).toNat), V.int (10 ^ (52 : Int).toNat)][r.toNat]? = some (.int c) ∧ 0 < c ∧ c.natAbs < 2 ^ 200 := by
        have r5 : r = 0 ∨ r = 1 ∨ r = 2 ∨ r = 3 ∨ r = 4 := by omega
        rcases r5 with rfl | rfl | rfl | rfl | rfl
        · exact ⟨_, rfl, by decide, by decide⟩
        · exact ⟨_, rfl, by decide, by decide⟩
        · exact ⟨_, rfl, by decide, by decide⟩
        · exact ⟨_, rfl, by decide, by decide⟩
        · exact ⟨_, rfl, by decide, by decide⟩
      refine ⟨_, rfl, l, _, _, _, rfl, rfl, SqL.of upd_same, at_of (show r = ((r.toNat : Nat) : Int) by omega) hc, _, _, rfl, rfl, wide_div (b := 200) c0 c1 (by decide) (by decide), ?_⟩
      have q0 := Int.ediv_nonneg m0 (show 0 ≤ c by omega)
      have q1 := Int.ediv_le_self c m0
      exact k _ _ q0 (by omega) d2
theorem ok_L_radix (T : Tx w K mg) : Prom P w K mg base CX0 2 "_law_radix" s_L_radix ["_law_pool_here"] (spDraw 2 256) := by
  refine Prom.of T.d_L_radix sc_L_radix (fun vs H Q E h => ?_) (fun _ _ _ _ _ _ us hl => match us, hl with | [_], _ => rfl) (fun f cdv A outer s H vs Q E hr h => ?_)
  · obtain ⟨p, rfl, _⟩ := h
    rfl
  · obtain ⟨p, rfl, hp, k⟩ := h
    refine ⟨_, (pss_cons (ps_set (i := 1) sc_L_radix.nd rfl (Or.inl rfl) (pe_callP (ok_L_draw T) (hr.mono (by decide)) (by rfl) pass0 (pa_cons (pv 0) (pa_cons pe_int pa_nil))))
      (pss_cons (ps_if (pt_cmp (pc_eqI (pv 1) pe_int)) (pss_one (ps_ret (pe_op op_add pe_int (pe_callP (ok_L_draw T) (hr.mono (by decide)) (by rfl) pass0 (pa_cons (pv 0) (pa_cons pe_int pa_nil)))))) pss_nil)
      (pss_one (ps_ret (pe_ifExp (pt_cmp (pc_eqI (pv 1) pe_int)) pe_int (pe_op op_add pe_int (pe_callP (ok_L_draw T) (hr.mono (by decide)) (by rfl) pass0 (pa_cons (pv 0) (pa_cons pe_int pa_nil))))))))), ?_⟩
    refine ⟨_, rfl, p, _, rfl, hp, by decide, by decide, fun r H2 r0 r1 d2 => ?_⟩
    refine ⟨_, rfl, _, _, rfl, rfl, _, rfl, ifd (fun c => ?_) (fun c => ?_)⟩
    · exact ⟨_, rfl, p, _, rfl, d2.at_, by decide, by decide, fun r' H3 r0' r1' d3 => ⟨_, _, rfl, rfl, k _ _ (by omega) (by omega) (d2.trans d3)⟩⟩
    · refine ⟨_, rfl, _, _, rfl, rfl, _, rfl, ifd (fun c => ?_) (fun c => ?_)⟩
      · exact k _ _ (by decide) (by decide) d2
      · exact ⟨_, rfl, p, _, rfl, d2.at_, by decide, by decide, fun r' H3 r0' r1' d3 => ⟨_, _, rfl, rfl, k _ _ (by omega) (by omega) (d2.trans d3)⟩⟩
theorem ok_L_length (T : Tx w K mg) : Prom P w K mg base CX0 3 "_law_length" s_L_length ["_law_pool_here", "_law_b"] spLLen := by
  refine Prom.of T.d_L_length sc_L_length (fun vs H Q E h => ?_) (fun _ _ _ _ _ _ us hl => match us, hl with | [_, _], _ => rfl) (fun f cdv A outer s H vs Q E hr h => ?_)
  · obtain ⟨p, b, rfl, _⟩ := h
    rfl
  · obtain ⟨p, b, rfl, hp, b0, b1, k⟩ := h
    refine ⟨_, (pss_cons (ps_set (i := 2) sc_L_length.nd rfl (Or.inl rfl) (pe_callP (ok_L_draw T) (hr.mono (by decide)) (by rfl) pass0 (pa_cons (pv 0) (pa_cons pe_int pa_nil))))
      (pss_cons (ps_if (pt_cmp (pc_lt (pv 2) pe_int)) (pss_one (ps_ret (pe_callP (ok_L_draw T) (hr.mono (by decide)) (by rfl) pass0 (pa_cons (pv 0) (pa_cons (pe_ix ix_list (pe_lst (pa_cons pe_int (pa_cons pe_int pa_nil))) (pv 2) (fun _ _ => rfl)) pa_nil))))) pss_nil)
      (pss_cons (ps_if (pt_cmp (pc_eqI (pv 2) pe_int)) (pss_one (ps_ret (pe_op op_sub (pe_op op_sub (pe_op op_pow pe_int pe_int) pe_int) (pe_callP (ok_L_draw T) (hr.mono (by decide)) (by rfl) pass0 (pa_cons (pv 0) (pa_cons pe_int pa_nil)))))) pss_nil)
      (pss_cons (ps_if (pt_cmp (pc_eqI (pv 2) pe_int)) (pss_one (ps_ret (pe_callP (ok_L_far T) (hr.mono (by decide)) (by rfl) pass0 (pa_cons (pv 0) pa_nil)))) pss_nil)
      (pss_cons (ps_set (i := 3) sc_L_length.nd rfl (Or.inl rfl) pe_int)
      (pss_cons (ps_for PassesOwn.never (by rfl) (pi_range1 (by rfl) T.b_range (pa_cons (pe_op op_add pe_int (pe_callP (ok_L_draw T) (hr.mono (by decide)) (by rfl) pass0 (pa_cons (pv 0) (pa_cons pe_int pa_nil)))) pa_nil)) (pg_name (i := 4) sc_L_length.nd rfl (Or.inl rfl)) (pss_one (ps_set (i := 3) sc_L_length.nd rfl (Or.inl rfl) (pe_ifExp (pt_cmp (pc_lt (pe_op op_mul (pv 3) (pv 1)) (pe_op op_pow pe_int pe_int))) (pe_op op_mul (pv 3) (pv 1)) (pv 3)))))
      (pss_one (ps_ret (pe_callB (call_max2 rfl) (by rfl) T.b_max (by decide +kernel) (pa_cons pe_int (pa_cons (pe_op op_sub (pe_op op_add (pv 3) (pe_callP (ok_L_draw T) (hr.mono (by decide)) (by rfl) pass0 (pa_cons (pv 0) (pa_cons pe_int pa_nil)))) pe_int) pa_nil))))))))))), ?_⟩
    refine ⟨_, rfl, p, _, rfl, hp, by decide, by decide, fun r H2 r0 r1 d2 => ?_⟩
    refine ⟨_, rfl, _, _, rfl, rfl, _, rfl, ifd (fun c => ?_) (fun c => ?_)⟩
    · have c : r < 2 := c
      refine ⟨_, rfl, (by show 2 ≤ sizeLine; decide), fun l hl => ?_⟩
      have d3 := d2.new (o := .lst [.int 70, .int 3000]) hl
      obtain ⟨y, hy, y0, y1⟩ : ∃ y : Int, [V.int 70, V.int 3000][r.toNat]? = some (.int y) ∧ 0 < y ∧ y ≤ 3000 := by
        have r5 : r = 0 ∨ r = 1 := by omega
        rcases r5 with rfl | rfl
        · exact ⟨_, rfl, by decide, by decide⟩
        · exact ⟨_, rfl, by decide, by decide⟩
      refine ⟨_, rfl, l, _, _, _, rfl, rfl, SqL.of upd_same, at_of (show r = ((r.toNat : Nat) : Int) by omega) hy, p, y, rfl, d3.at_, y0, by omega, fun z H3 z0 z1 d4 => ?_⟩
      exact k _ _ z0 (Int.le_trans (show z ≤ 3000 by omega) (by decide)) (d3.trans d4)
    · refine ⟨_, rfl, _, _, rfl, rfl, _, rfl, ifd (fun c2 => ?_) (fun c2 => ?_)⟩
      · refine ⟨_, _, rfl, rfl, ⟨by decide, by decide, by decide⟩, _, _, rfl, rfl, _, rfl, p, _, rfl, d2.at_, by decide, by decide, fun z H3 z0 z1 d4 => ⟨_, _, rfl, rfl, ?_⟩⟩
        have e : (10 : Int) ^ (60 : Int).toNat = 10 ^ 60 := rfl
        exact k _ _ (by rw [e]; omega) (by rw [e]; omega) (d2.trans d4)
      · refine ⟨_, rfl, _, _, rfl, rfl, _, rfl, ifd (fun c3 => ?_) (fun c3 => ?_)⟩
        · exact ⟨_, rfl, p, rfl, d2.at_, fun z H3 z0 z1 d4 => k _ _ z0 z1 (d2.trans d4)⟩
        · refine ⟨_, rfl, p, _, rfl, d2.at_, by decide, by decide, fun t H3 t0 t1 d3 => ⟨_, _, rfl, rfl, ?_⟩⟩
          have d3 := d2.trans d3
          refine ⟨_, rfl, by omega, by omega, for_range (lo := 0) (fun i σ H' => H' = H3 ∧ ∃ (m : Int) (v : Option V), 1 ≤ m ∧ m < 10 ^ 59 ∧ σ = [some (.ref p), some (.int b), some (.int r), some (.int m), v]) ⟨rfl, 1, none, by decide, by decide, rfl⟩ ?_ ?_⟩
          · rintro i σ H' hi ⟨rfl, m, v, m0, m1, rfl⟩
            refine ⟨_, rfl, _, rfl, _, _, rfl, rfl, .inr ⟨by omega, by omega⟩, _, _, rfl, rfl, ⟨by decide, by decide, by decide⟩, _, _, rfl, rfl, _, rfl, ifd (fun c => ?_) (fun c => ?_)⟩
            · have c : m * b < 10 ^ 59 := c
              refine ⟨_, rfl, _, rfl, _, _, rfl, rfl, .inr ⟨by omega, by omega⟩, rfl, m * b, _, ?_, c, rfl⟩
              have := Int.mul_le_mul m0 (show 1 ≤ b by omega) (by decide) (by omega)
              omega
            · exact ⟨_, rfl, rfl, m, _, m0, m1, rfl⟩
          · rintro σ H' ⟨rfl, m, v, m0, m1, rfl⟩
            refine ⟨_, rfl, _, rfl, p, _, rfl, d3.at_, by decide, by decide, fun z H4 z0 z1 d4 => ⟨_, _, rfl, rfl, _, _, rfl, rfl, _, _, rfl, ?_⟩⟩
            refine k _ _ ?_ ?_ (d3.trans d4)
            · split <;> omega
            · have e : (10 : Int) ^ 60 = 10 * 10 ^ 59 := by decide
              rw [e]
              split <;> omega
theorem ok_L_constant (T : Tx w K mg) : Prom P w K mg base CX0 2 "_law_constant" s_L_constant ["_law_pool_here", "_law_most"] spConst := by
  refine Prom.of T.d_L_constant sc_L_constant (fun vs H Q E h => ?_) (fun _ _ _ _ _ _ us hl => match us, hl with | [_, _], _ => rfl) (fun f cdv A outer s H vs Q E hr h => ?_)
  · obtain ⟨p, m, rfl, _⟩ := h
    rfl
  · obtain ⟨p, m, rfl, hp, m0, m1, k⟩ := h
    refine ⟨_, (pss_cons (ps_set (i := 2) sc_L_constant.nd rfl (Or.inl rfl) (pe_callP (ok_L_draw T) (hr.mono (by decide)) (by rfl) pass0 (pa_cons (pv 0) (pa_cons pe_int pa_nil))))
      (pss_cons (ps_if (pt_cmp (pc_eqI (pv 2) pe_int)) (pss_one (ps_ret (pe_callP (ok_L_draw T) (hr.mono (by decide)) (by rfl) pass0 (pa_cons (pv 0) (pa_cons pe_int pa_nil))))) pss_nil)
      (pss_one (ps_ret (pe_ifExp (pt_cmp (pc_eqI (pv 2) pe_int)) (pe_op op_sub (pv 1) (pe_callP (ok_L_draw T) (hr.mono (by decide)) (by rfl) pass0 (pa_cons (pv 0) (pa_cons pe_int pa_nil)))) (pe_callP (ok_L_draw T) (hr.mono (by decide)) (by rfl) pass0 (pa_cons (pv 0) (pa_cons (pe_op op_add (pv 1) pe_int) pa_nil)))))))), ?_⟩
    refine ⟨_, rfl, p, _, rfl, hp, by decide, by decide, fun r H2 r0 r1 d2 => ?_⟩
    refine ⟨_, rfl, _, _, rfl, rfl, _, rfl, ifd (fun c => ?_) (fun c => ?_)⟩
    · exact ⟨_, rfl, p, _, rfl, d2.at_, by decide, by decide, fun z H3 z0 z1 d4 => k _ _ z0 (by omega) (d2.trans d4)⟩
    · refine ⟨_, rfl, _, _, rfl, rfl, _, rfl, ifd (fun c => ?_) (fun c => ?_)⟩
      · exact ⟨_, rfl, _, rfl, p, _, rfl, d2.at_, by decide, by decide, fun z H3 z0 z1 d4 => ⟨_, _, rfl, rfl, k _ _ (by omega) (by omega) (d2.trans d4)⟩⟩
      · exact ⟨_, rfl, _, rfl, _, _, rfl, rfl, p, m + 1, rfl, d2.at_, by omega, by omega, fun z H3 z0 z1 d4 => k _ _ z0 (by omega) (d2.trans d4)⟩
end
theorem fig_div {b n : Int} {j : Nat} (hb : 2 ≤ b) (h : b ^ j ≤ n) : figF b n = figF b (n / b ^ j) + j := by
  have pj := pow_pos (show 1 ≤ b by omega) j
  obtain ⟨i, e, h1, h2⟩ := figF_is (b := b) (n := n / b ^ j) hb
  refine (figF_eq hb (n := n) (k := figF b (n / b ^ j) + j) ⟨i + j, by omega, ?_, .inr ?_⟩).symm
  · have z := (Int.ediv_lt_iff_lt_mul (by omega)).mp h1
    have e2 : b ^ (i + j + 1) = b ^ (i + 1) * b ^ j := by rw [← Int.pow_add]; congr 1; omega
    rw [e2]
    exact z
  · rw [Int.pow_add]
    rcases h2 with h2 | h2
    · rw [h2, Int.pow_zero, Int.one_mul]
      exact h
    · exact (Int.le_ediv_iff_mul_le (by omega)).mp h2
theorem fig_one {b n : Int} (hb : 2 ≤ b) (h : n < b) : figF b n = 1 := (figF_eq hb (n := n) (k := 1) ⟨0, rfl, by rw [pow_one]; exact h, .inl rfl⟩).symm
def spLFigs : Sp := fun vs H Q _ => ∃ n b : Int, vs = [.int n, .int b] ∧ 2 ≤ b ∧ b ≤ 256 ∧ 0 ≤ n ∧ Q (.int (figF b n)) H
section
variable {P : Program} {w : World} {K : PySem.W.Frag} {mg : Str → Option Value} {base : Heap}
theorem ok_L_figures (T : Tx w K mg) : Prom P w K mg base CX0 1 "_law_figures" s_L_figures ["_law_n", "_law_b"] spLFigs := by
  refine Prom.of T.d_L_figures sc_L_figures (fun vs H Q E h => ?_) (fun _ _ _ _ _ _ us hl => match us, hl with | [_, _], _ => rfl) (fun f cdv A outer s H vs Q E hr h => ?_)
  · obtain ⟨n, b, rfl, _⟩ := h
    rfl
  · obtain ⟨n, b, rfl, hb, hb2, n0, k⟩ := h
    have p16 := pow_lt hb 0
    have g16 : ∀ m : Nat, b ^ m ≤ 256 ^ m := fun m => by
      induction m with
      | zero => rw [Int.pow_zero, Int.pow_zero]; exact Int.le_refl _
      | succ m ih =>
        rw [Int.pow_succ, Int.pow_succ]
        exact Int.mul_le_mul ih hb2 (by omega) (Int.le_of_lt (Int.lt_of_lt_of_le (by decide) (pow_pos (show (1 : Int) ≤ 256 by decide) m)))
    have f0 : b ^ 1 ≤ b ^ 16 := pow_mono (by omega) (by decide)
    have f1 : b ^ 1 = b := pow_one b
    have f2 := g16 16
    have f3 : (b ^ 16).natAbs < 2 ^ 130 := by
      have : (b ^ 16).natAbs ≤ 256 ^ 16 := by
        have e : (256 : Int) ^ 16 = ((256 ^ 16 : Nat) : Int) := by decide
        rw [e] at f2
        omega
      exact Nat.lt_of_le_of_lt this (by decide)
    refine ⟨_, (pss_cons (ps_par (i := 2) (j := 3) (by rfl) sc_L_figures.nd rfl rfl (by decide) rfl rfl (pa_cons (pe_op op_pow (pv 1) pe_int) (pa_cons pe_int pa_nil)) (by rfl))
      (pss_cons (ps_while PassesOwn.never (pt_cmp (pc_ge (pv 0) (pv 2))) (pss_one (ps_par (i := 0) (j := 3) (by rfl) sc_L_figures.nd rfl rfl (by decide) rfl rfl (pa_cons (pe_op op_fdivW (pv 0) (pv 2)) (pa_cons (pe_op op_add (pv 3) pe_int) pa_nil)) (by rfl))))
      (pss_cons (ps_while PassesOwn.never (pt_cmp (pc_ge (pv 0) (pv 1))) (pss_one (ps_par (i := 0) (j := 3) (by rfl) sc_L_figures.nd rfl rfl (by decide) rfl rfl (pa_cons (pe_op op_fdivW (pv 0) (pv 1)) (pa_cons (pe_op op_add (pv 3) pe_int) pa_nil)) (by rfl))))
      (pss_one (ps_ret (pv 3)))))), ?_⟩
    refine ⟨_, rfl, _, _, rfl, rfl, ⟨by decide, by decide, ?_⟩, _, _, rfl, ?_⟩
    · show b.natAbs < 2 ^ 64
      omega
    refine ⟨fun m σ H2 => H2 = H ∧ ∃ (y c : Int), σ = [some (.int y), some (.int b), some (.int (b ^ 16)), some (.int c)] ∧ 0 ≤ y ∧ figF b n = figF b y + c - 1 ∧ m = y.toNat, ⟨_, rfl, n, 1, rfl, n0, by omega, rfl⟩, ?_⟩
    rintro m σ H2 ⟨rfl, y, c, rfl, y0, ey, rfl⟩
    refine ⟨_, rfl, _, rfl, _, _, rfl, rfl, _, rfl, ifd (fun z => ?_) (fun z => ?_)⟩
    · have z : y ≥ b ^ 16 := z
      refine ⟨_, fun σ' H' h => h, ?_⟩
      refine ⟨_, rfl, _, rfl, _, _, rfl, rfl, wide_div (b := 130) (by omega) f3 (by decide) (by decide), _, rfl, _, _, rfl, rfl, _, _, rfl, ?_⟩
      have q0 := Int.ediv_nonneg y0 (show 0 ≤ b ^ 16 by omega)
      have q1 : y / b ^ 16 < y := Int.ediv_lt_of_lt_mul (by omega) (by
        have := Int.mul_le_mul_of_nonneg_left (show 2 ≤ b ^ 16 by omega) y0
        omega)
      refine ⟨_, ?_, rfl, y / b ^ 16, c + 16, rfl, q0, ?_, rfl⟩
      · omega
      · rw [ey, fig_div hb z]
        omega
    · refine ⟨fun m σ H3 => H3 = H2 ∧ ∃ (y c : Int), σ = [some (.int y), some (.int b), some (.int (b ^ 16)), some (.int c)] ∧ 0 ≤ y ∧ figF b n = figF b y + c - 1 ∧ m = y.toNat, ⟨_, rfl, y, c, rfl, y0, ey, rfl⟩, ?_⟩
      clear z ey y0
      rintro m σ H3 ⟨rfl, y, c, rfl, y0, ey, rfl⟩
      refine ⟨_, rfl, _, rfl, _, _, rfl, rfl, _, rfl, ifd (fun z => ?_) (fun z => ?_)⟩
      · have z : y ≥ b := z
        refine ⟨_, fun σ' H' h => h, ?_⟩
        refine ⟨_, rfl, _, rfl, _, _, rfl, rfl, wide_div (b := 10) (by omega) (by omega) (by decide) (by decide), _, rfl, _, _, rfl, rfl, _, _, rfl, ?_⟩
        have q0 := Int.ediv_nonneg y0 (show 0 ≤ b by omega)
        have q1 : y / b < y := Int.ediv_lt_of_lt_mul (by omega) (by
          have := Int.mul_le_mul_of_nonneg_left (show 2 ≤ b by omega) y0
          omega)
        refine ⟨_, ?_, rfl, y / b, c + 1, rfl, q0, ?_, rfl⟩
        · omega
        · have := fig_div (j := 1) hb (show b ^ 1 ≤ y by omega)
          rw [f1] at this
          rw [ey, this]
          omega
      · have z : ¬ y ≥ b := z
        have := fig_one hb (show y < b by omega)
        rw [this] at ey
        have e : c = figF b n := by omega
        rw [← e] at k
        exact ⟨_, rfl, k⟩
end
/-! ### the law's own tags: a kind and its numbers -/
def TagAt (H : Hp) (p : Addr) (a : Wr) : Prop := H p = some (.tup (.str a.kind :: a.nums.map V.int))
inductive TagsAt (H : Hp) : List V → List Wr → Prop where
  | nil : TagsAt H [] []
  | cons {p : Addr} {a : Wr} {xs : List V} {ws : List Wr} (h : TagAt H p a) (r : TagsAt H xs ws) : TagsAt H (.ref p :: xs) (a :: ws)
theorem TagsAt.len {H : Hp} {xs : List V} {ws : List Wr} (h : TagsAt H xs ws) : xs.length = ws.length := by
  induction h with
  | nil => rfl
  | cons _ _ ih => exact congrArg (· + 1) ih
theorem TagsAt.get {H : Hp} {xs : List V} {ws : List Wr} (h : TagsAt H xs ws) : ∀ {i : Nat} {x : V}, xs[i]? = some x → ∃ (p : Addr) (a : Wr), x = .ref p ∧ ws[i]? = some a ∧ TagAt H p a := by
  induction h with
  | nil =>
    intro i x e
    simp at e
  | cons h _ ih =>
    intro i x e
    cases i with
    | zero =>
      simp at e
      exact ⟨_, _, e.symm, rfl, h⟩
    | succ i => exact ih (by simpa using e)
theorem TagsAt.same {H H' : Hp} {xs : List V} {ws : List Wr} (h : TagsAt H xs ws) (s : Same H H') : TagsAt H' xs ws := by
  induction h with
  | nil => exact .nil
  | cons h _ ih => exact .cons (s _ _ h) ih
theorem TagsAt.snoc {H : Hp} {xs : List V} {ws : List Wr} {p : Addr} {a : Wr} (h : TagsAt H xs ws) (hx : TagAt H p a) : TagsAt H (xs ++ [.ref p]) (ws ++ [a]) := by
  induction h with
  | nil => exact .cons hx .nil
  | cons h _ ih => exact .cons h ih
theorem TagsAt.dropLast {H : Hp} {xs : List V} {ws : List Wr} (h : TagsAt H xs ws) : TagsAt H xs.dropLast ws.dropLast := by
  induction h with
  | nil => exact .nil
  | cons h r ih =>
    cases r with
    | nil => exact .nil
    | cons h2 r2 => exact .cons h ih
theorem TagsAt.put {H : Hp} {l : Addr} {xs : List V} {ys zs : List V} {ws : List Wr} (h : TagsAt H xs ws) (hl : H l = some (.lst ys)) : TagsAt (upd H l (.lst zs)) xs ws := by
  induction h with
  | nil => exact .nil
  | @cons q a xs ws h _ ih =>
    refine .cons ?_ ih
    have h : H q = _ := h
    show (upd H l _) q = _
    rw [upd_ne (fun z => by rw [z, hl] at h; cases h)]
    exact h
theorem Drew.tag {p q : Addr} {H H1 : Hp} {a : Wr} (d : Drew p H H1) (hp : PurseAt H p) (h : TagAt H q a) : TagAt H1 q a := d.keep hp h (fun _ z => by cases z)
theorem Drew.tags {p : Addr} {H H1 : Hp} {xs : List V} {ws : List Wr} (d : Drew p H H1) (hp : PurseAt H p) (h : TagsAt H xs ws) : TagsAt H1 xs ws := by
  induction h with
  | nil => exact .nil
  | cons h _ ih => exact .cons (d.tag hp h) ih
def spLOver : Sp := fun vs H Q _ => ∃ (p : Addr) (a : Wr) (n b : Int), vs = [.ref p, .int n, .int b] ∧ TagAt H p a ∧ a.ok ∧ 2 ≤ b ∧ b ≤ 256 ∧ 0 ≤ n ∧ ∀ H', Same H H' → Q (.int (a.gr b n)) H'
section
variable {P : Program} {w : World} {K : PySem.W.Frag} {mg : Str → Option Value} {base : Heap}
theorem ok_L_over (T : Tx w K mg) : Prom P w K mg base CX0 2 "_law_over" s_L_over ["_law_tag", "_law_n", "_law_b"] spLOver := by
  refine Prom.of T.d_L_over sc_L_over (fun vs H Q E h => ?_) (fun _ _ _ _ _ _ us hl => match us, hl with | [_, _, _], _ => rfl) (fun f cdv A outer s H vs Q E hr h => ?_)
  · obtain ⟨p, a, n, b, rfl, _⟩ := h
    rfl
  · obtain ⟨p, a, n, b, rfl, hp, ha, b0, b1, n0, k⟩ := h
    have hp : H p = _ := hp
    have k0 := k H (Same.refl H)
    refine ⟨_, (pss_cons (ps_if (pt_cmpR op_eq (pe_ix ix_tup (pv 0) pe_int (fun _ _ => rfl)) pe_str (nomark _)) (pss_one (ps_ret (pe_op op_add (pv 1) (pe_ix ix_tup (pv 0) pe_int (fun _ _ => rfl))))) pss_nil)
      (pss_cons (ps_if (pt_cmpR op_eq (pe_ix ix_tup (pv 0) pe_int (fun _ _ => rfl)) pe_str (nomark _)) (pss_one (ps_ret (pe_op op_add (pe_op op_add (pv 1) (pe_ix ix_tup (pv 0) pe_int (fun _ _ => rfl))) (pe_callP (ok_L_figures T) (hr.mono (by decide)) (by rfl) pass0 (pa_cons (pv 1) (pa_cons (pv 2) pa_nil)))))) pss_nil)
      (pss_cons (ps_if (pt_cmpR op_eq (pe_ix ix_tup (pv 0) pe_int (fun _ _ => rfl)) pe_str (nomark _)) (pss_cons (ps_set (i := 3) sc_L_over.nd rfl (Or.inl rfl) (pe_callP (ok_L_figures T) (hr.mono (by decide)) (by rfl) pass0 (pa_cons (pe_op op_add (pv 1) (pe_ix ix_tup (pv 0) pe_int (fun _ _ => rfl))) (pa_cons (pv 2) pa_nil))))
      (pss_one (ps_ret (pe_op op_add (pe_op op_add (pv 1) (pe_ix ix_tup (pv 0) pe_int (fun _ _ => rfl))) (pe_ifExp (pt_cmp (pc_eqI (pe_callP (ok_L_figures T) (hr.mono (by decide)) (by rfl) pass0 (pa_cons (pe_op op_add (pe_op op_add (pv 1) (pe_ix ix_tup (pv 0) pe_int (fun _ _ => rfl))) (pv 3)) (pa_cons (pv 2) pa_nil))) (pv 3))) (pv 3) (pe_op op_add (pv 3) pe_int)))))) pss_nil)
      (pss_cons (ps_if (pt_cmpR op_eq (pe_ix ix_tup (pv 0) pe_int (fun _ _ => rfl)) pe_str (nomark _)) (pss_cons (ps_asg (pe_callB call_divmodW (by rfl) T.b_divmod (by decide +kernel) (pa_cons (pv 1) (pa_cons (pe_ix ix_tup (pv 0) pe_int (fun _ _ => rfl)) pa_nil))) (pg_tup rfl (pgs_cons (pg_name (i := 4) sc_L_over.nd rfl (Or.inl rfl)) (pgs_cons (pg_name (i := 5) sc_L_over.nd rfl (Or.inl rfl)) pgs_nil))))
      (pss_cons (ps_set (i := 6) sc_L_over.nd rfl (Or.inl rfl) (pe_ifExp (pt_cmp (pc_gt (pv 5) pe_int)) (pe_op op_add (pe_op op_add (pv 5) (pe_ix ix_tup (pv 0) pe_int (fun _ _ => rfl))) (pe_callP (ok_L_figures T) (hr.mono (by decide)) (by rfl) pass0 (pa_cons (pv 5) (pa_cons (pv 2) pa_nil)))) pe_int))
      (pss_one (ps_ret (pe_op op_add (pe_op op_add (pe_op op_add (pe_op op_mul (pv 4) (pe_op op_add (pe_op op_add (pe_ix ix_tup (pv 0) pe_int (fun _ _ => rfl)) (pe_ix ix_tup (pv 0) pe_int (fun _ _ => rfl))) (pe_callP (ok_L_figures T) (hr.mono (by decide)) (by rfl) pass0 (pa_cons (pe_ix ix_tup (pv 0) pe_int (fun _ _ => rfl)) (pa_cons (pv 2) pa_nil))))) (pv 6)) (pe_ix ix_tup (pv 0) pe_int (fun _ _ => rfl))) pe_int))))) pss_nil)
      (pss_cons (ps_set (i := 7) sc_L_over.nd rfl (Or.inl rfl) (pe_op op_fdiv (pe_op op_sub (pe_op op_add (pv 1) (pe_ix ix_tup (pv 0) pe_int (fun _ _ => rfl))) pe_int) (pe_ix ix_tup (pv 0) pe_int (fun _ _ => rfl))))
      (pss_cons (ps_if (pt_cmpR op_eq (pe_ix ix_tup (pv 0) pe_int (fun _ _ => rfl)) pe_str (nomark _)) (pss_one (ps_ret (pe_op op_add (pv 1) (pe_op op_mul (pv 7) (pe_ix ix_tup (pv 0) pe_int (fun _ _ => rfl)))))) pss_nil)
      (pss_one (ps_ret (pe_op op_mul (pv 7) (pe_ifExp (pt_cmpR op_eq (pe_ix ix_tup (pv 0) pe_int (fun _ _ => rfl)) pe_str (nomark _)) (pe_ix ix_tup (pv 0) pe_int (fun _ _ => rfl)) (pe_ix ix_tup (pv 0) pe_int (fun _ _ => rfl)))))))))))), ?_⟩
    cases a with
    | plus c =>
      simp only [Wr.ok] at ha
      refine ⟨_, rfl, p, _, _, _, rfl, rfl, SqT.of hp, rfl, rfl, _, rfl, ifd_pos rfl ?_⟩
      exact ⟨_, rfl, _, rfl, p, _, _, _, rfl, rfl, SqT.of hp, rfl, _, _, rfl, rfl, k0⟩
    | told c =>
      simp only [Wr.ok] at ha
      refine ⟨_, rfl, p, _, _, _, rfl, rfl, SqT.of hp, rfl, rfl, _, rfl, ifs_neg (show ("told" : Str) ≠ "plus" by decide) ?_⟩
      refine ⟨_, rfl, p, _, _, _, rfl, rfl, SqT.of hp, rfl, rfl, _, rfl, ifd_pos rfl ?_⟩
      exact ⟨_, rfl, _, rfl, p, _, _, _, rfl, rfl, SqT.of hp, rfl, _, _, rfl, rfl, _, rfl, _, rfl, n, b, rfl, b0, b1, n0, _, _, rfl, rfl, k0⟩
    | whole c =>
      simp only [Wr.ok] at ha
      refine ⟨_, rfl, p, _, _, _, rfl, rfl, SqT.of hp, rfl, rfl, _, rfl, ifs_neg (show ("whole" : Str) ≠ "plus" by decide) ?_⟩
      refine ⟨_, rfl, p, _, _, _, rfl, rfl, SqT.of hp, rfl, rfl, _, rfl, ifs_neg (show ("whole" : Str) ≠ "told" by decide) ?_⟩
      refine ⟨_, rfl, p, _, _, _, rfl, rfl, SqT.of hp, rfl, rfl, _, rfl, ifd_pos rfl ?_⟩
      refine ⟨_, rfl, _, rfl, p, _, _, _, rfl, rfl, SqT.of hp, rfl, _, _, rfl, rfl, _, rfl, n + c, b, rfl, b0, b1, by omega, ?_⟩
      refine ⟨_, rfl, _, rfl, p, _, _, _, rfl, rfl, SqT.of hp, rfl, _, _, rfl, rfl, ?_⟩
      refine ⟨_, rfl, _, rfl, p, _, _, _, rfl, rfl, SqT.of hp, rfl, _, _, rfl, rfl, _, rfl, _, _, rfl, rfl, _, rfl, n + c + figF b (n + c), b, rfl, b0, b1, ?_, _, rfl, _, _, rfl, rfl, _, rfl, ?_⟩
      · have := figF_pos (b := b) (n := n + c) b0
        omega
      have f := figF_is (b := b) (n := n + c) b0
      have g := figF_is (b := b) (n := n + c + figF b (n + c)) b0
      refine ifd (fun z => ?_) (fun z => ?_)
      · have z : figF b (n + c + figF b (n + c)) = figF b (n + c) := z
        rw [z] at g
        have et := totF_eq b0 (show 0 ≤ n + c by omega) (isTot_first b0 f g)
        simp only [Wr.gr] at k0
        rw [← et] at k0
        exact ⟨_, rfl, _, _, rfl, rfl, k0⟩
      · have z : ¬ figF b (n + c + figF b (n + c)) = figF b (n + c) := z
        have e := (fig_grow b0 (show 0 ≤ n + c by omega) f g).resolve_left z
        rw [e] at g
        have et := totF_eq b0 (show 0 ≤ n + c by omega) (isTot_second b0 (show 0 ≤ n + c by omega) f g)
        simp only [Wr.gr] at k0
        rw [← et, show n + c + figF b (n + c) + 1 = n + c + (figF b (n + c) + 1) by omega] at k0
        exact ⟨_, rfl, _, _, rfl, rfl, _, _, rfl, rfl, k0⟩
    | pieces m c =>
      simp only [Wr.ok] at ha
      refine ⟨_, rfl, p, _, _, _, rfl, rfl, SqT.of hp, rfl, rfl, _, rfl, ifs_neg (show ("pieces" : Str) ≠ "plus" by decide) ?_⟩
      refine ⟨_, rfl, p, _, _, _, rfl, rfl, SqT.of hp, rfl, rfl, _, rfl, ifs_neg (show ("pieces" : Str) ≠ "told" by decide) ?_⟩
      refine ⟨_, rfl, p, _, _, _, rfl, rfl, SqT.of hp, rfl, rfl, _, rfl, ifs_neg (show ("pieces" : Str) ≠ "whole" by decide) ?_⟩
      refine ⟨_, rfl, p, _, _, _, rfl, rfl, SqT.of hp, rfl, rfl, _, rfl, ifd_pos rfl ?_⟩
      have r0 := Int.emod_nonneg n (show m ≠ 0 by omega)
      have r1 := Int.emod_lt_of_pos n (show 0 < m by omega)
      have f1 := fig_small (b := b) (m := m) b0 ha.2.1
      have f2 := figF_pos (b := b) (n := m) b0
      refine ⟨_, rfl, _, rfl, p, _, _, _, rfl, rfl, SqT.of hp, rfl, _, _, rfl, divp_small (by omega) (by omega), fun t ht => ⟨t, _, rfl, SqT.of upd_same, rfl, _, _, rfl, _, _, rfl, rfl, ?_⟩⟩
      have s1 := up (o := .tup [.int (n / m), .int (n % m)]) ht
      have hp := s1 _ _ hp
      have k1 := k _ s1
      simp only [Wr.gr] at k1
      generalize upd H t (.tup [.int (n / m), .int (n % m)]) = H1 at s1 hp k1 ⊢
      refine ⟨_, rfl, _, _, rfl, rfl, _, rfl, ifd (fun z => ?_) (fun z => ?_)⟩
      · have z : n % m > 0 := z
        rw [if_pos z] at k1
        refine ⟨_, rfl, _, rfl, p, _, _, _, rfl, rfl, SqT.of hp, rfl, _, _, rfl, rfl, _, rfl, _, rfl, n % m, b, rfl, b0, b1, r0, _, _, rfl, rfl, ?_⟩
        refine ⟨_, rfl, _, rfl, p, _, _, _, rfl, rfl, SqT.of hp, rfl, _, rfl, p, _, _, _, rfl, rfl, SqT.of hp, rfl, _, _, rfl, rfl, _, rfl, p, _, _, _, rfl, rfl, SqT.of hp, rfl, _, rfl, m, b, rfl, b0, b1, by omega, _, _, rfl, rfl, _, _, rfl, rfl, .inr ⟨(show -(2 ^ 64) < m + c + figF b m by omega), (show m + c + figF b m < 2 ^ 64 by omega)⟩, ?_⟩
        exact ⟨_, rfl, _, _, rfl, rfl, _, rfl, p, _, _, _, rfl, rfl, SqT.of hp, rfl, _, _, rfl, rfl, _, _, rfl, rfl, k1⟩
      · have z : ¬ n % m > 0 := z
        rw [if_neg z] at k1
        refine ⟨_, rfl, _, rfl, p, _, _, _, rfl, rfl, SqT.of hp, rfl, _, rfl, p, _, _, _, rfl, rfl, SqT.of hp, rfl, _, _, rfl, rfl, _, rfl, p, _, _, _, rfl, rfl, SqT.of hp, rfl, _, rfl, m, b, rfl, b0, b1, by omega, _, _, rfl, rfl, _, _, rfl, rfl, .inr ⟨(show -(2 ^ 64) < m + c + figF b m by omega), (show m + c + figF b m < 2 ^ 64 by omega)⟩, ?_⟩
        exact ⟨_, rfl, _, _, rfl, rfl, _, rfl, p, _, _, _, rfl, rfl, SqT.of hp, rfl, _, _, rfl, rfl, _, _, rfl, rfl, k1⟩
    | cut m c =>
      simp only [Wr.ok] at ha
      refine ⟨_, rfl, p, _, _, _, rfl, rfl, SqT.of hp, rfl, rfl, _, rfl, ifs_neg (show ("cut" : Str) ≠ "plus" by decide) ?_⟩
      refine ⟨_, rfl, p, _, _, _, rfl, rfl, SqT.of hp, rfl, rfl, _, rfl, ifs_neg (show ("cut" : Str) ≠ "told" by decide) ?_⟩
      refine ⟨_, rfl, p, _, _, _, rfl, rfl, SqT.of hp, rfl, rfl, _, rfl, ifs_neg (show ("cut" : Str) ≠ "whole" by decide) ?_⟩
      refine ⟨_, rfl, p, _, _, _, rfl, rfl, SqT.of hp, rfl, rfl, _, rfl, ifs_neg (show ("cut" : Str) ≠ "pieces" by decide) ?_⟩
      refine ⟨_, rfl, _, rfl, p, _, _, _, rfl, rfl, SqT.of hp, rfl, _, _, rfl, rfl, _, _, rfl, rfl, _, rfl, p, _, _, _, rfl, rfl, SqT.of hp, rfl, _, _, rfl, rfl, ⟨(show 0 < m by omega), (show m < 1073741824 by omega)⟩, ?_⟩
      refine ⟨_, rfl, p, _, _, _, rfl, rfl, SqT.of hp, rfl, rfl, _, rfl, ifd_pos rfl ?_⟩
      exact ⟨_, rfl, _, rfl, _, rfl, p, _, _, _, rfl, rfl, SqT.of hp, rfl, _, _, rfl, rfl, .inr ⟨(show -(2 ^ 64) < c by omega), (show c < 2 ^ 64 by omega)⟩, _, _, rfl, rfl, k0⟩
    | coded m c =>
      simp only [Wr.ok] at ha
      refine ⟨_, rfl, p, _, _, _, rfl, rfl, SqT.of hp, rfl, rfl, _, rfl, ifs_neg (show ("coded" : Str) ≠ "plus" by decide) ?_⟩
      refine ⟨_, rfl, p, _, _, _, rfl, rfl, SqT.of hp, rfl, rfl, _, rfl, ifs_neg (show ("coded" : Str) ≠ "told" by decide) ?_⟩
      refine ⟨_, rfl, p, _, _, _, rfl, rfl, SqT.of hp, rfl, rfl, _, rfl, ifs_neg (show ("coded" : Str) ≠ "whole" by decide) ?_⟩
      refine ⟨_, rfl, p, _, _, _, rfl, rfl, SqT.of hp, rfl, rfl, _, rfl, ifs_neg (show ("coded" : Str) ≠ "pieces" by decide) ?_⟩
      refine ⟨_, rfl, _, rfl, p, _, _, _, rfl, rfl, SqT.of hp, rfl, _, _, rfl, rfl, _, _, rfl, rfl, _, rfl, p, _, _, _, rfl, rfl, SqT.of hp, rfl, _, _, rfl, rfl, ⟨(show 0 < m by omega), (show m < 1073741824 by omega)⟩, ?_⟩
      refine ⟨_, rfl, p, _, _, _, rfl, rfl, SqT.of hp, rfl, rfl, _, rfl, ifs_neg (show ("coded" : Str) ≠ "cut" by decide) ?_⟩
      refine ⟨_, rfl, _, rfl, p, _, _, _, rfl, rfl, SqT.of hp, rfl, rfl, _, rfl, ifd_pos rfl ?_⟩
      exact ⟨_, rfl, p, _, _, _, rfl, rfl, SqT.of hp, rfl, _, _, rfl, rfl, .inr ⟨(show -(2 ^ 64) < c by omega), (show c < 2 ^ 64 by omega)⟩, k0⟩
    | filled m =>
      simp only [Wr.ok] at ha
      refine ⟨_, rfl, p, _, _, _, rfl, rfl, SqT.of hp, rfl, rfl, _, rfl, ifs_neg (show ("filled" : Str) ≠ "plus" by decide) ?_⟩
      refine ⟨_, rfl, p, _, _, _, rfl, rfl, SqT.of hp, rfl, rfl, _, rfl, ifs_neg (show ("filled" : Str) ≠ "told" by decide) ?_⟩
      refine ⟨_, rfl, p, _, _, _, rfl, rfl, SqT.of hp, rfl, rfl, _, rfl, ifs_neg (show ("filled" : Str) ≠ "whole" by decide) ?_⟩
      refine ⟨_, rfl, p, _, _, _, rfl, rfl, SqT.of hp, rfl, rfl, _, rfl, ifs_neg (show ("filled" : Str) ≠ "pieces" by decide) ?_⟩
      refine ⟨_, rfl, _, rfl, p, _, _, _, rfl, rfl, SqT.of hp, rfl, _, _, rfl, rfl, _, _, rfl, rfl, _, rfl, p, _, _, _, rfl, rfl, SqT.of hp, rfl, _, _, rfl, rfl, ⟨(show 0 < m by omega), (show m < 1073741824 by omega)⟩, ?_⟩
      refine ⟨_, rfl, p, _, _, _, rfl, rfl, SqT.of hp, rfl, rfl, _, rfl, ifs_neg (show ("filled" : Str) ≠ "cut" by decide) ?_⟩
      refine ⟨_, rfl, _, rfl, p, _, _, _, rfl, rfl, SqT.of hp, rfl, rfl, _, rfl, ifs_neg (show ("filled" : Str) ≠ "coded" by decide) ?_⟩
      exact ⟨_, rfl, p, _, _, _, rfl, rfl, SqT.of hp, rfl, _, _, rfl, rfl, .inr ⟨(show -(2 ^ 64) < m by omega), (show m < 2 ^ 64 by omega)⟩, k0⟩
end
def tagD (a : Wr) : PyData := .tuple (.str a.kind :: a.nums.map PyData.int)
theorem TagsAt.dp {K : PySem.W.Frag} {H : Hp} {xs : List V} {ws : List Wr} (h : TagsAt H xs ws) : DpAll K H xs (ws.map tagD) := by
  induction h with
  | nil => exact .nil
  | cons h _ ih => exact .cons (.tup (SqT.of h) (.cons (.str _) (dp_ints _))) ih
theorem tag_shp (a : Wr) : Shp (tagD a) 1 := shp_tuple (k := 0) fun d hd => by
  rcases List.mem_cons.mp hd with rfl | hd
  · exact shp_str (by cases a <;> simp only [Wr.kind] <;> decide +kernel)
  · obtain ⟨i, _, rfl⟩ := List.mem_map.mp hd
    exact shp_int i
theorem tags_shp (ws : List Wr) : Shp (.list (ws.map tagD)) 2 := shp_list fun d hd => by
  obtain ⟨a, _, rfl⟩ := List.mem_map.mp hd
  exact tag_shp a
def spLLong : Sp := fun vs H Q _ => ∃ (l : Addr) (xs : List V) (ws : List Wr) (n b : Int), vs = [.ref l, .int n, .int b] ∧ H l = some (.lst xs) ∧ TagsAt H xs ws ∧ (∀ a ∈ ws, a.ok) ∧ 2 ≤ b ∧ b ≤ 256 ∧ 0 ≤ n ∧ ∀ H', Same H H' → Q (.int (grS b ws n)) H'
def spLFine : Sp := fun vs H Q _ => ∃ (l : Addr) (xs : List V) (ws : List Wr), vs = [.ref l] ∧ H l = some (.lst xs) ∧ TagsAt H xs ws ∧ (∀ a ∈ ws, a.ok) ∧ ∀ H', Same H H' → Q (.int (fineL ws)) H'
def spLTag : Sp := fun vs H Q _ => ∃ (p : Addr) (r : Int), vs = [.ref p, .int r] ∧ PurseAt H p ∧ 1 ≤ r ∧ r ≤ 120 ∧ ∀ q a H', a.ok → a.use ≤ r → H q = none → Drew p H H' → TagAt H' q a → Q (.ref q) H'
theorem grS_nonneg {b : Int} (hb : 2 ≤ b) : ∀ (ws : List Wr), (∀ a ∈ ws, a.ok) → ∀ {n : Int}, 0 ≤ n → 0 ≤ grS b ws n
  | [], _, n, h => h
  | a :: ws, ha, n, h => grS_nonneg hb ws (fun x hx => ha x (List.mem_cons_of_mem _ hx)) (gr_le hb (ha a (List.mem_cons_self ..)) h).1
section
variable {P : Program} {w : World} {K : PySem.W.Frag} {mg : Str → Option Value} {base : Heap}
theorem ok_L_long (T : Tx w K mg) : Prom P w K mg base CX0 3 "_law_long" s_L_long ["_law_tags_here", "_law_n", "_law_b"] spLLong := by
  refine Prom.of T.d_L_long sc_L_long (fun vs H Q E h => ?_) (fun _ _ _ _ _ _ us hl => match us, hl with | [_, _, _], _ => rfl) (fun f cdv A outer s H vs Q E hr h => ?_)
  · obtain ⟨l, xs, ws, n, b, rfl, _⟩ := h
    rfl
  · obtain ⟨l, xs, ws, n, b, rfl, hl, hw, ha, b0, b1, n0, k⟩ := h
    refine ⟨_, (pss_cons (ps_for PassesOwn.never (by rfl) (pi_list (pv 0)) (pg_name (i := 3) sc_L_long.nd rfl (Or.inl rfl)) (pss_one (ps_set (i := 1) sc_L_long.nd rfl (Or.inl rfl) (pe_callP (ok_L_over T) (hr.mono (by decide)) (by rfl) pass0 (pa_cons (pv 3) (pa_cons (pv 1) (pa_cons (pv 2) pa_nil)))))))
      (pss_one (ps_ret (pv 1)))), ?_⟩
    refine ⟨_, rfl, l, rfl, ⟨_, SqL.of hl⟩, for_list (K := K) (a := l) (xs := xs) (fun i σ H' => Same H H' ∧ ∃ v, σ = [some (.ref l), some (.int (grS b (ws.take i) n)), some (.int b), v]) ⟨Same.refl H, none, rfl⟩ (fun i σ H' _ h => SqL.of (h.1 _ _ hl)) ?_ ?_⟩
    · rintro i x σ H' hi ⟨hs, v, rfl⟩
      obtain ⟨p, a, rfl, hp, pa⟩ := hw.get hi
      have et : grS b (ws.take (i + 1)) n = a.gr b (grS b (ws.take i) n) := by
        unfold grS
        rw [List.take_succ, hp, List.foldl_append]
        rfl
      rw [et]
      refine ⟨_, rfl, _, rfl, _, rfl, p, a, _, b, rfl, hs _ _ pa, ha a (List.mem_of_getElem? hp), b0, b1, grS_nonneg b0 _ (fun z hz => ha z (List.mem_of_mem_take hz)) n0, fun H2 s2 => ?_⟩
      exact ⟨hs.trans s2, _, rfl⟩
    · rintro σ H' ⟨hs, v, rfl⟩
      rw [hw.len, List.take_length]
      exact ⟨_, rfl, k _ hs⟩
theorem ok_L_fine (T : Tx w K mg) : Prom P w K mg base CX0 1 "_law_fine" s_L_fine ["_law_tags_here"] spLFine := by
  refine Prom.of T.d_L_fine sc_L_fine (fun vs H Q E h => ?_) (fun _ _ _ _ _ _ us hl => match us, hl with | [_], _ => rfl) (fun f cdv A outer s H vs Q E hr h => ?_)
  · obtain ⟨l, xs, ws, rfl, _⟩ := h
    rfl
  · obtain ⟨l, xs, ws, rfl, hl, hw, ha, k⟩ := h
    refine ⟨_, (pss_cons (ps_set (i := 1) sc_L_fine.nd rfl (Or.inl rfl) pe_int)
      (pss_cons (ps_for PassesOwn.never (by rfl) (pi_list (pv 0)) (pg_name (i := 2) sc_L_fine.nd rfl (Or.inl rfl)) (pss_one (ps_if (pt_cmpR op_in_seq (pe_ix ix_tup (pv 2) pe_int (fun _ _ => rfl)) (pe_lst (pa_cons pe_str (pa_cons pe_str (pa_cons pe_str (pa_cons pe_str pa_nil))))) (by rfl)) (pss_one (ps_set (i := 1) sc_L_fine.nd rfl (Or.inl rfl) (pe_op op_mul (pe_op op_mul (pv 1) (pe_ix ix_tup (pv 2) pe_int (fun _ _ => rfl))) (pe_ifExp (pt_cmpR op_eq (pe_ix ix_tup (pv 2) pe_int (fun _ _ => rfl)) pe_str (nomark _)) (pe_ix ix_tup (pv 2) pe_int (fun _ _ => rfl)) pe_int)))) pss_nil)))
      (pss_one (ps_ret (pv 1))))), ?_⟩
    refine ⟨_, rfl, l, rfl, ⟨_, SqL.of hl⟩, for_list (K := K) (a := l) (xs := xs) (fun i σ H' => Same H H' ∧ ∃ v, σ = [some (.ref l), some (.int ((ws.take i).foldl stepF 1)), v]) ⟨Same.refl H, none, rfl⟩ (fun i σ H' _ h => SqL.of (h.1 _ _ hl)) ?_ ?_⟩
    · rintro i x σ H' hi ⟨hs, v, rfl⟩
      obtain ⟨q, a, rfl, hx, pa⟩ := hw.get hi
      have hok := ha a (List.mem_of_getElem? hx)
      have hq : H' q = _ := hs _ _ pa
      have et : (ws.take (i + 1)).foldl stepF 1 = stepF ((ws.take i).foldl stepF 1) a := by
        rw [List.take_succ, hx, List.foldl_append]
        rfl
      generalize (ws.take i).foldl stepF 1 = m at et ⊢
      rw [et]
      cases a with
      | plus c =>
        refine ⟨_, rfl, q, _, _, _, rfl, rfl, SqT.of hq, rfl, (by show 4 ≤ sizeLine; decide), fun l2 hl2 => ⟨l2, _, rfl, .inl (SqL.of upd_same), rfl, rfl, _, rfl, ifb_neg (by kernel_rfl) ?_⟩⟩
        exact ⟨hs.trans (up hl2), _, rfl⟩
      | told c =>
        refine ⟨_, rfl, q, _, _, _, rfl, rfl, SqT.of hq, rfl, (by show 4 ≤ sizeLine; decide), fun l2 hl2 => ⟨l2, _, rfl, .inl (SqL.of upd_same), rfl, rfl, _, rfl, ifb_neg (by kernel_rfl) ?_⟩⟩
        exact ⟨hs.trans (up hl2), _, rfl⟩
      | whole c =>
        refine ⟨_, rfl, q, _, _, _, rfl, rfl, SqT.of hq, rfl, (by show 4 ≤ sizeLine; decide), fun l2 hl2 => ⟨l2, _, rfl, .inl (SqL.of upd_same), rfl, rfl, _, rfl, ifb_neg (by kernel_rfl) ?_⟩⟩
        exact ⟨hs.trans (up hl2), _, rfl⟩
      | pieces m' c =>
        simp only [Wr.ok] at hok
        refine ⟨_, rfl, q, _, _, _, rfl, rfl, SqT.of hq, rfl, (by show 4 ≤ sizeLine; decide), fun l2 hl2 => ⟨l2, _, rfl, .inl (SqL.of upd_same), rfl, rfl, _, rfl, ifb_pos (by kernel_rfl) ?_⟩⟩
        have hq2 := up (o := .lst [V.str "pieces", V.str "cut", V.str "coded", V.str "filled"]) hl2 _ _ hq
        refine ⟨_, rfl, _, rfl, q, _, _, _, rfl, rfl, SqT.of hq2, rfl, _, _, rfl, rfl, .inr ⟨(show -(2 ^ 64) < m' by omega), (show m' < 2 ^ 64 by omega)⟩, ?_⟩
        refine ⟨_, rfl, q, _, _, _, rfl, rfl, SqT.of hq2, rfl, rfl, _, rfl, ifs_neg (show ("pieces" : Str) ≠ "coded" by decide) ?_⟩
        refine ⟨_, _, rfl, rfl, .inr ⟨by decide, by decide⟩, hs.trans (up hl2), some (.ref q), ?_⟩
        show [some (V.ref l), some (V.int (m * m' * 1)), some (V.ref q)] = _
        rw [Int.mul_one]
        rfl
      | cut m' c =>
        simp only [Wr.ok] at hok
        refine ⟨_, rfl, q, _, _, _, rfl, rfl, SqT.of hq, rfl, (by show 4 ≤ sizeLine; decide), fun l2 hl2 => ⟨l2, _, rfl, .inl (SqL.of upd_same), rfl, rfl, _, rfl, ifb_pos (by kernel_rfl) ?_⟩⟩
        have hq2 := up (o := .lst [V.str "pieces", V.str "cut", V.str "coded", V.str "filled"]) hl2 _ _ hq
        refine ⟨_, rfl, _, rfl, q, _, _, _, rfl, rfl, SqT.of hq2, rfl, _, _, rfl, rfl, .inr ⟨(show -(2 ^ 64) < m' by omega), (show m' < 2 ^ 64 by omega)⟩, ?_⟩
        refine ⟨_, rfl, q, _, _, _, rfl, rfl, SqT.of hq2, rfl, rfl, _, rfl, ifs_neg (show ("cut" : Str) ≠ "coded" by decide) ?_⟩
        refine ⟨_, _, rfl, rfl, .inr ⟨by decide, by decide⟩, hs.trans (up hl2), some (.ref q), ?_⟩
        show [some (V.ref l), some (V.int (m * m' * 1)), some (V.ref q)] = _
        rw [Int.mul_one]
        rfl
      | filled m' =>
        simp only [Wr.ok] at hok
        refine ⟨_, rfl, q, _, _, _, rfl, rfl, SqT.of hq, rfl, (by show 4 ≤ sizeLine; decide), fun l2 hl2 => ⟨l2, _, rfl, .inl (SqL.of upd_same), rfl, rfl, _, rfl, ifb_pos (by kernel_rfl) ?_⟩⟩
        have hq2 := up (o := .lst [V.str "pieces", V.str "cut", V.str "coded", V.str "filled"]) hl2 _ _ hq
        refine ⟨_, rfl, _, rfl, q, _, _, _, rfl, rfl, SqT.of hq2, rfl, _, _, rfl, rfl, .inr ⟨(show -(2 ^ 64) < m' by omega), (show m' < 2 ^ 64 by omega)⟩, ?_⟩
        refine ⟨_, rfl, q, _, _, _, rfl, rfl, SqT.of hq2, rfl, rfl, _, rfl, ifs_neg (show ("filled" : Str) ≠ "coded" by decide) ?_⟩
        refine ⟨_, _, rfl, rfl, .inr ⟨by decide, by decide⟩, hs.trans (up hl2), some (.ref q), ?_⟩
        show [some (V.ref l), some (V.int (m * m' * 1)), some (V.ref q)] = _
        rw [Int.mul_one]
        rfl
      | coded m' c =>
        simp only [Wr.ok] at hok
        refine ⟨_, rfl, q, _, _, _, rfl, rfl, SqT.of hq, rfl, (by show 4 ≤ sizeLine; decide), fun l2 hl2 => ⟨l2, _, rfl, .inl (SqL.of upd_same), rfl, rfl, _, rfl, ifb_pos (by kernel_rfl) ?_⟩⟩
        have hq2 := up (o := .lst [V.str "pieces", V.str "cut", V.str "coded", V.str "filled"]) hl2 _ _ hq
        refine ⟨_, rfl, _, rfl, q, _, _, _, rfl, rfl, SqT.of hq2, rfl, _, _, rfl, rfl, .inr ⟨(show -(2 ^ 64) < m' by omega), (show m' < 2 ^ 64 by omega)⟩, ?_⟩
        refine ⟨_, rfl, q, _, _, _, rfl, rfl, SqT.of hq2, rfl, rfl, _, rfl, ifd_pos rfl ?_⟩
        exact ⟨_, rfl, q, _, _, _, rfl, rfl, SqT.of hq2, rfl, _, _, rfl, rfl, .inr ⟨(show -(2 ^ 64) < c by omega), (show c < 2 ^ 64 by omega)⟩, hs.trans (up hl2), _, rfl⟩
    · rintro σ H' ⟨hs, v, rfl⟩
      rw [hw.len, List.take_length]
      exact ⟨_, rfl, k _ hs⟩
end
theorem Drew.put {p l : Addr} {H H' : Hp} {o : HO} (a : Drew p H H') (h : H l = none) (n : l ≠ p) : Drew p H (upd H' l o) := by
  refine ⟨?_, fun b u nb e => ?_⟩
  · obtain ⟨m, d, c, e, r⟩ := a.at_
    exact ⟨m, d, c, by rw [upd_ne (Ne.symm n)]; exact e, r⟩
  · rw [upd_ne (ne_of_none e h)]
    exact a.kp b u nb e
theorem upd_id {H : Hp} {l : Addr} {o : HO} (h : H l = some o) : upd H l o = H := by
  funext b
  by_cases z : b = l
  · rw [z, upd_same, h]
  · rw [upd_ne z]
theorem wrap_room {b : Int} {ws : List Wr} {a : Wr} (so : StkOk b ws) (hl : ws.length < 6) (ha : a.ok) (hu : a.use ≤ 120 / fineL ws) : StkOk b (ws ++ [a]) := by
  have fp : 1 ≤ fineL ws := fine_pos (ws := ws) so.ok (p := 1) (by decide)
  refine ⟨so.b0, so.b1, fun z hz => ?_, by simp; omega, ?_⟩
  · rcases List.mem_append.mp hz with y | y
    · exact so.ok z y
    · have : z = a := by simpa using y
      rw [this]
      exact ha
  · rw [fine_app]
    have := Int.mul_le_of_le_ediv (show 0 < fineL ws by omega) hu
    rw [Int.mul_comm]
    exact this
section
variable {P : Program} {w : World} {K : PySem.W.Frag} {mg : Str → Option Value} {base : Heap}
theorem ok_L_wrap (T : Tx w K mg) : Prom P w K mg base CX0 3 "_law_wrap" s_L_wrap ["_law_pool_here", "_law_room"] spLTag := by
  refine Prom.of T.d_L_wrap sc_L_wrap (fun vs H Q E h => ?_) (fun _ _ _ _ _ _ us hl => match us, hl with | [_, _], _ => rfl) (fun f cdv A outer s H vs Q E hr h => ?_)
  · obtain ⟨p, r, rfl, _⟩ := h
    rfl
  · obtain ⟨p, r, rfl, hp, r0, r1, k⟩ := h
    refine ⟨_, (pss_cons (ps_par (i := 2) (j := 3) (by rfl) sc_L_wrap.nd rfl rfl (by decide) rfl rfl (pa_cons (pe_callP (ok_L_draw T) (hr.mono (by decide)) (by rfl) pass0 (pa_cons (pv 0) (pa_cons pe_int pa_nil))) (pa_cons (pe_callB (call_min2 rfl) (by rfl) T.b_min (by decide +kernel) (pa_cons pe_int (pa_cons (pv 1) pa_nil))) pa_nil)) (by rfl))
      (pss_cons (ps_if (pt_cmp (pc_lt (pv 2) pe_int)) (pss_one (ps_ret (pe_tup (pa_cons (pe_ix ix_list (pe_lst (pa_cons pe_str (pa_cons pe_str (pa_cons pe_str (pa_cons pe_str pa_nil))))) (pv 2) (fun _ _ => rfl)) (pa_cons (pe_callP (ok_L_constant T) (hr.mono (by decide)) (by rfl) pass0 (pa_cons (pv 0) (pa_cons (pe_ifExp (pt_cmp (pc_lt (pv 2) pe_int)) pe_int pe_int) pa_nil))) pa_nil))))) pss_nil)
      (pss_cons (ps_if (pt_cmp (pc_lt (pv 2) pe_int)) (pss_cons (ps_set (i := 4) sc_L_wrap.nd rfl (Or.inl rfl) (pe_ifExp (pt_cmp (pc_eqI (pe_callP (ok_L_draw T) (hr.mono (by decide)) (by rfl) pass0 (pa_cons (pv 0) (pa_cons pe_int pa_nil))) pe_int)) (pv 3) (pe_op op_add pe_int (pe_callP (ok_L_draw T) (hr.mono (by decide)) (by rfl) pass0 (pa_cons (pv 0) (pa_cons (pv 3) pa_nil))))))
      (pss_cons (ps_if (pt_cmp (pc_eqI (pv 2) pe_int)) (pss_one (ps_ret (pe_tup (pa_cons pe_str (pa_cons (pv 4) pa_nil))))) pss_nil)
      (pss_one (ps_ret (pe_tup (pa_cons (pe_ix ix_list (pe_lst (pa_cons pe_str (pa_cons pe_str pa_nil))) (pe_op op_sub (pv 2) pe_int) (fun _ _ => rfl)) (pa_cons (pv 4) (pa_cons (pe_callP (ok_L_constant T) (hr.mono (by decide)) (by rfl) pass0 (pa_cons (pv 0) (pa_cons pe_int pa_nil))) pa_nil)))))))) pss_nil)
      (pss_cons (ps_set (i := 4) sc_L_wrap.nd rfl (Or.inl rfl) (pe_op op_add pe_int (pe_callP (ok_L_draw T) (hr.mono (by decide)) (by rfl) pass0 (pa_cons (pv 0) (pa_cons (pe_callB call_len_seq (by rfl) T.b_len (by decide +kernel) (pa_cons (pe_lc (own := [("_law_k", 5)]) (g := (gName 5)) (by rfl) sc_L_wrap.nd (pi_range2A (by rfl) T.b_range (pa_cons pe_int (pa_cons pe_int pa_nil))) (blkOk_by (own := [("_law_k", 5)]) (N := ["_law_pool_here", "_law_room", "_law_way", "_law_most", "_law_many", "_law_k"]) (sc := defScope s_L_wrap) (by decide +kernel)) (fun _ _ _ _ _ => (pg_name (i := 5) sc_L_wrap.nd rfl (Or.inl rfl))) (fun _ _ _ _ _ => pts_one (pt_cmp (pc_le (pe_op op_mul (pv 5) (pv 5)) (pv 1)))) (fun _ _ _ _ _ => (pv 5))) pa_nil)) pa_nil)))))
      (pss_one (ps_ret (pe_tup (pa_cons pe_str (pa_cons (pv 4) (pa_cons (pe_op op_add (pv 4) (pe_callP (ok_L_draw T) (hr.mono (by decide)) (by rfl) pass0 (pa_cons (pv 0) (pa_cons (pe_op op_add (pe_op op_sub (pe_op op_fdiv (pv 1) (pv 4)) (pv 4)) pe_int) pa_nil)))) pa_nil)))))))))), ?_⟩
    refine ⟨_, rfl, p, _, rfl, hp, by decide, by decide, fun y H1 y0 y1 d1 => ⟨_, rfl, _, _, rfl, _, _, rfl, ?_⟩⟩
    have mo : ∀ v : Int, v = (if r < 60 then r else 60) → 1 ≤ v ∧ v ≤ 60 ∧ v ≤ r := fun v hv => by
      rw [hv]
      split <;> omega
    generalize hv : (if r < 60 then r else 60) = v
    obtain ⟨v0, v1, v2⟩ := mo v hv.symm
    refine ⟨_, rfl, _, _, rfl, rfl, _, rfl, ifd (fun c => ?_) (fun c => ?_)⟩
    · have c : y < 4 := c
      obtain ⟨kd, mkW, hm, hy⟩ : ∃ (kd : Str) (mkW : Int → Wr), (∀ c, (mkW c).kind = kd ∧ (mkW c).nums = [c] ∧ (mkW c).use = 1 ∧ (0 ≤ c ∧ c ≤ 1000 → (mkW c).ok)) ∧ [V.str "plus", V.str "told", V.str "whole", V.str "told"][y.toNat]? = some (V.str kd) := by
        have y4 : y = 0 ∨ y = 1 ∨ y = 2 ∨ y = 3 := by omega
        rcases y4 with rfl | rfl | rfl | rfl
        · exact ⟨"plus", Wr.plus, fun c => ⟨rfl, rfl, rfl, id⟩, rfl⟩
        · exact ⟨"told", Wr.told, fun c => ⟨rfl, rfl, rfl, id⟩, rfl⟩
        · exact ⟨"whole", Wr.whole, fun c => ⟨rfl, rfl, rfl, id⟩, rfl⟩
        · exact ⟨"told", Wr.told, fun c => ⟨rfl, rfl, rfl, id⟩, rfl⟩
      have fin : ∀ (H2 : Hp), Drew p H H2 → ∀ c, 0 ≤ c → c ≤ 1000 → ∀ t, H2 t = none → Q (.ref t) (upd H2 t (.tup [.str kd, .int c])) := fun H2 d c c0 c1 t ht => by
        obtain ⟨e1, e2, e3, e4⟩ := hm c
        refine k t (mkW c) _ (e4 ⟨c0, c1⟩) (by omega) (new_before d hp ht) (d.new ht) ?_
        show (upd H2 t _) t = some (.tup (.str (mkW c).kind :: (mkW c).nums.map V.int))
        rw [upd_same, e1, e2]
        rfl
      refine ⟨(by show 4 ≤ sizeLine; decide), fun l hl => ?_⟩
      have d2 := d1.new (o := .lst [V.str "plus", V.str "told", V.str "whole", V.str "told"]) hl
      refine ⟨_, rfl, l, _, _, _, rfl, rfl, SqL.of upd_same, at_of (show y = ((y.toNat : Nat) : Int) by omega) hy, ?_⟩
      refine ⟨_, rfl, _, rfl, _, _, rfl, rfl, _, rfl, ifd (fun c2 => ?_) (fun c2 => ?_)⟩
      · exact ⟨p, _, rfl, d2.at_, by decide, by decide, fun z H3 z0 z1 d3 => ⟨(by show 2 ≤ sizeLine; decide), fun t ht => fin _ (d2.trans d3) z z0 z1 t ht⟩⟩
      · exact ⟨p, _, rfl, d2.at_, by decide, by decide, fun z H3 z0 z1 d3 => ⟨(by show 2 ≤ sizeLine; decide), fun t ht => fin _ (d2.trans d3) z z0 (by omega) t ht⟩⟩
    have c : ¬ y < 4 := c
    refine ⟨_, rfl, _, _, rfl, rfl, _, rfl, ifd (fun c2 => ?_) (fun c2 => ?_)⟩
    · have c2 : y < 7 := c2
      refine ⟨_, rfl, p, _, rfl, d1.at_, by decide, by decide, fun u H2 u0 u1 d2 => ?_⟩
      have d2 := d1.trans d2
      refine ⟨_, _, rfl, rfl, _, rfl, ifd (fun c3 => ?_) (fun c3 => ?_)⟩
      · refine ⟨_, rfl, ?_⟩
        have m0 := v0
        have m1 := (Int.le_refl v)
        refine ⟨_, rfl, _, _, rfl, rfl, _, rfl, ifd (fun c4 => ?_) (fun c4 => ?_)⟩
        · exact ⟨_, rfl, (by show 2 ≤ sizeLine; decide), fun t ht => k t (Wr.filled v) _ ⟨by omega, by omega⟩ (show v ≤ r by omega) (new_before d2 hp ht) (d2.new ht) upd_same⟩
        · have c4 : ¬ y = 6 := c4
          obtain ⟨kd, mkW, hm, hy⟩ : ∃ (kd : Str) (mkW : Int → Int → Wr), (∀ m c, (mkW m c).kind = kd ∧ (mkW m c).nums = [m, c] ∧ (mkW m c).use = m ∧ (1 ≤ m ∧ m ≤ 60 ∧ 0 ≤ c ∧ c ≤ 60 → (mkW m c).ok)) ∧ [V.str "pieces", V.str "cut"][(y - 4).toNat]? = some (V.str kd) := by
            have y4 : y = 4 ∨ y = 5 := by omega
            rcases y4 with rfl | rfl
            · exact ⟨"pieces", Wr.pieces, fun m c => ⟨rfl, rfl, rfl, id⟩, rfl⟩
            · exact ⟨"cut", Wr.cut, fun m c => ⟨rfl, rfl, rfl, id⟩, rfl⟩
          refine ⟨(by show 2 ≤ sizeLine; decide), fun l hl => ?_⟩
          have d5 := d2.new (o := .lst [V.str "pieces", V.str "cut"]) hl
          refine ⟨_, rfl, _, _, rfl, rfl, l, _, _, _, rfl, rfl, SqL.of upd_same, at_of (show y - 4 = (((y - 4).toNat : Nat) : Int) by omega) hy, _, rfl, _, rfl, ?_⟩
          refine ⟨p, _, rfl, d5.at_, by decide, by decide, fun z H6 z0 z1 d6 => ⟨(by show 3 ≤ sizeLine; decide), fun t ht => ?_⟩⟩
          have d6 := d5.trans d6
          obtain ⟨e1, e2, e3, e4⟩ := hm v z
          refine k t (mkW v z) _ (e4 ⟨by omega, by omega, z0, z1⟩) (by omega) (new_before d6 hp ht) (d6.new ht) ?_
          show (upd H6 t _) t = some (.tup (.str (mkW v z).kind :: (mkW v z).nums.map V.int))
          rw [upd_same, e1, e2]
          rfl
      · refine ⟨_, rfl, _, rfl, p, v, rfl, d2.at_, by omega, by omega, fun o H3 o0 o1 d3 => ⟨_, _, rfl, rfl, ?_⟩⟩
        have d3 := d2.trans d3
        have m0 := (show 1 ≤ 1 + o by omega)
        have m1 := (show 1 + o ≤ v by omega)
        refine ⟨_, rfl, _, _, rfl, rfl, _, rfl, ifd (fun c4 => ?_) (fun c4 => ?_)⟩
        · exact ⟨_, rfl, (by show 2 ≤ sizeLine; decide), fun t ht => k t (Wr.filled (1 + o)) _ ⟨by omega, by omega⟩ (show (1 + o) ≤ r by omega) (new_before d3 hp ht) (d3.new ht) upd_same⟩
        · have c4 : ¬ y = 6 := c4
          obtain ⟨kd, mkW, hm, hy⟩ : ∃ (kd : Str) (mkW : Int → Int → Wr), (∀ m c, (mkW m c).kind = kd ∧ (mkW m c).nums = [m, c] ∧ (mkW m c).use = m ∧ (1 ≤ m ∧ m ≤ 60 ∧ 0 ≤ c ∧ c ≤ 60 → (mkW m c).ok)) ∧ [V.str "pieces", V.str "cut"][(y - 4).toNat]? = some (V.str kd) := by
            have y4 : y = 4 ∨ y = 5 := by omega
            rcases y4 with rfl | rfl
            · exact ⟨"pieces", Wr.pieces, fun m c => ⟨rfl, rfl, rfl, id⟩, rfl⟩
            · exact ⟨"cut", Wr.cut, fun m c => ⟨rfl, rfl, rfl, id⟩, rfl⟩
          refine ⟨(by show 2 ≤ sizeLine; decide), fun l hl => ?_⟩
          have d5 := d3.new (o := .lst [V.str "pieces", V.str "cut"]) hl
          refine ⟨_, rfl, _, _, rfl, rfl, l, _, _, _, rfl, rfl, SqL.of upd_same, at_of (show y - 4 = (((y - 4).toNat : Nat) : Int) by omega) hy, _, rfl, _, rfl, ?_⟩
          refine ⟨p, _, rfl, d5.at_, by decide, by decide, fun z H6 z0 z1 d6 => ⟨(by show 3 ≤ sizeLine; decide), fun t ht => ?_⟩⟩
          have d6 := d5.trans d6
          obtain ⟨e1, e2, e3, e4⟩ := hm (1 + o) z
          refine k t (mkW (1 + o) z) _ (e4 ⟨by omega, by omega, z0, z1⟩) (by omega) (new_before d6 hp ht) (d6.new ht) ?_
          show (upd H6 t _) t = some (.tup (.str (mkW (1 + o) z).kind :: (mkW (1 + o) z).nums.map V.int))
          rw [upd_same, e1, e2]
          rfl
    · refine ⟨_, rfl, _, _, rfl, fun D hD => ?_⟩
      refine lc_range (lo := 1) (n := ((11 : Int) - 1).toNat) (Pv := fun j H' => Same H1 H' ∧ H' D = some (.lst ((sqs r j).map V.int))) ⟨up hD, upd_same⟩ ?_ ?_
      · rintro j H' hj ⟨hs, hy⟩
        have hj : j < 10 := hj
        have sl := (sqs_len r0 j).1
        refine ⟨rfl, _, rfl, _, rfl, _, _, rfl, rfl, .inl ⟨by omega, by omega⟩, _, rfl, _, _, rfl, rfl, _, rfl, ifd (fun z => ?_) (fun z => ?_)⟩
        · have z : (1 + (j : Int)) * (1 + (j : Int)) ≤ r := z
          refine ⟨_, rfl, _, hy, ?_, fun y o e => ?_, ?_⟩
          · rw [List.length_map, sizeLine_eq]
            omega
          · rw [upd_ne (ne_of_none e hD)]
            exact hs _ _ e
          · rw [upd_same, sqs_succ, if_pos z, List.map_append]
            rfl
        · have z : ¬ (1 + (j : Int)) * (1 + (j : Int)) ≤ r := z
          refine ⟨hs, ?_⟩
          rw [hy, sqs_succ, if_neg z, List.append_nil]
      · rintro H3 ⟨hs, hy⟩
        have d3 := d1.same hs
        have hy : H3 D = some (.lst ((sqs r 10).map V.int)) := hy
        obtain ⟨s1, s2, s3⟩ := sqs_len r0 10
        have s2 := s2 (by decide)
        refine ⟨D, _, rfl, .inl (SqL.of hy), p, _, rfl, d3.at_, by rw [List.length_map]; omega, by rw [List.length_map]; omega, fun o H4 o0 o1 d4 => ?_⟩
        rw [List.length_map] at o1
        have d4 := d3.trans d4
        refine ⟨_, _, rfl, rfl, ?_⟩
        have sq := s3 (1 + o) (by omega) (by omega)
        have q1 : 1 + o ≤ r / (1 + o) := Int.le_ediv_of_mul_le (by omega) sq
        have q2 : r / (1 + o) ≤ r := Int.ediv_le_self _ (by omega)
        refine ⟨_, rfl, _, rfl, _, rfl, _, rfl, _, rfl, _, _, rfl, rfl, ⟨(show 0 < 1 + o by omega), (show 1 + o < 1073741824 by omega)⟩, _, rfl, _, _, rfl, rfl, _, _, rfl, rfl, ?_⟩
        refine ⟨p, _, rfl, d4.at_, by omega, by omega, fun u H5 u0 u1 d5 => ?_⟩
        have d5 := d4.trans d5
        refine ⟨_, _, rfl, rfl, (by show 3 ≤ sizeLine; decide), fun t ht => ?_⟩
        have le2 : (1 + o + u) * (1 + o) ≤ r := Int.mul_le_of_le_ediv (by omega) (show 1 + o + u ≤ r / (1 + o) by omega)
        rw [Int.mul_comm] at le2
        exact k t (Wr.coded (1 + o) (1 + o + u)) _ ⟨by omega, by omega, by omega, by omega⟩ le2 (new_before d5 hp ht) (d5.new ht) upd_same
end
theorem cut_to {xs : List V} {i : Nat} (h : i ≤ xs.length) : cutV xs none (some (i : Int)) = xs.take i := by
  unfold cutV
  rw [HT.sIx_none, HT.sIx_nat]
  simp [Nat.min_eq_left h]
theorem cut_from {xs : List V} {i : Nat} (h : i ≤ xs.length) : cutV xs (some (i : Int)) none = xs.drop i := by
  unfold cutV
  rw [HT.sIx_none, HT.sIx_nat, Nat.min_eq_left h]
  exact List.take_of_length_le (by rw [List.length_drop]; exact Nat.le_refl _)
set_option pp.maxSteps 900
/-! ### an integer, a text or a tuple with something otherwise: the leaves -/
def signs : Str := " \n0189abdefhilnoptuw-"
def OneOff (s t : Str) : Prop := (∃ (a c : Nat), a ≤ s.length ∧ c ∈ signs.cps.toList ∧ (t = cutS s none (some (a : Int)) ++ ⟨#[c]⟩ ++ cutS s (some (a : Int)) none ∨ t = cutS s none (some (a : Int)) ++ cutS s (some ((a : Int) + 1)) none ∨
  t = cutS s none (some (a : Int)) ++ ⟨#[c]⟩ ++ cutS s (some ((a : Int) + 1)) none)) ∨ ∃ u ∈ Txt.split s "\n", t = s ++ "\n" ++ u
def BentI (i : Int) (d : PyData) : Prop := d = .int (i + 1) ∨ d = .int (i - 1) ∨ d = .int (i + 10) ∨ d = .int (-i - 1) ∨ d = .int (i * 10) ∨ d = .str (Str.ofString (toString i)) ∨ d = .tuple [.int i] ∨ d = .none
def Bent0 (e d : PyData) : Prop := (∃ i, e = .int i ∧ BentI i d) ∨ ∃ s t, e = .str s ∧ d = .str t ∧ OneOff s t
def LeafOk (e : V) : Prop := (∃ i : Int, e = .int i ∧ -10 ^ 100 ≤ i ∧ i ≤ 10 ^ 100) ∨ ∃ s : Str, e = .str s ∧ s.length ≤ 300 ∧ PyData.strOk s = true
def dOf : V → PyData
  | .int i => .int i
  | .str s => .str s
  | _ => .none
def spBent0 (K : PySem.W.Frag) : Sp := fun vs H Q _ => ∃ (p : Addr) (v : V), vs = [.ref p, v] ∧ PurseAt H p ∧ LeafOk v ∧ ∀ v' d' H', Dp K H' v' d' → Bent0 (dOf v) d' → Drew p H H' → Q v' H'
theorem dp_el {K : PySem.W.Frag} {H : Hp} {v : V} (h : LeafOk v) : Dp K H v (dOf v) := by
  rcases h with ⟨i, rfl, _⟩ | ⟨s, rfl, _⟩
  · exact .int i
  · exact .str _
theorem sz {n : Nat} (h : n ≤ 5000) : n ≤ sizeLine := Nat.le_trans h (by decide)
theorem log2_any {i : Int} (h0 : -10 ^ 100 ≤ i) (h1 : i ≤ 10 ^ 100) : i.natAbs.log2 < 1920 := by
  have h3 : i.natAbs < 2 ^ 400 := Nat.lt_of_le_of_lt (show i.natAbs ≤ 10 ^ 100 by omega) (by decide)
  exact Nat.lt_of_lt_of_le (PySem.Flt.log2_lt_of (by decide) h3) (by decide)
theorem app_len (x y : Str) : (x ++ y).length = x.length + y.length := by
  show (x.cps ++ y.cps).size = _
  rw [Array.size_append]
  rfl
theorem one_off_len {s t : Str} (h : OneOff s t) : t.length ≤ 2 * s.length + 1 := by
  rcases h with ⟨a, c, _, _, h⟩ | ⟨u, hu, rfl⟩
  · have h1 := cutS_length s none (some (a : Int))
    have h2 := cutS_length s (some (a : Int)) none
    have h3 := cutS_length s (some ((a : Int) + 1)) none
    have h4 : (⟨#[c]⟩ : Str).length = 1 := rfl
    rcases h with rfl | rfl | rfl
    · rw [app_len, app_len, h4]; omega
    · rw [app_len]; omega
    · rw [app_len, app_len, h4]; omega
  · have := part_short hu
    have h4 : ("\n" : Str).length = 1 := rfl
    rw [app_len, app_len, h4]
    omega
section
variable {P : Program} {w : World} {K : PySem.W.Frag} {mg : Str → Option Value} {base : Heap}
theorem bent_none (T : Tx w K mg) : Prom P w K mg base CX0 1 "_law_bent" s_L_bent ["_law_pool_here", "_law_thing"] spNone :=
  Prom.of T.d_L_bent sc_L_bent (fun vs H Q E h => absurd h id) (fun _ _ _ _ _ _ us hl => match us, hl with | [_, _], _ => rfl) (fun f cdv A outer s H vs Q E hr h => absurd h id)
theorem bent_zero (T : Tx w K mg) : Prom P w K mg base CX0 2 "_law_bent" s_L_bent ["_law_pool_here", "_law_thing"] (spBent0 K) := by
  have R := bent_none (P := P) (w := w) (base := base) T
  refine Prom.of T.d_L_bent sc_L_bent (fun vs H Q E h => ?_) (fun _ _ _ _ _ _ us hl => match us, hl with | [_, _], _ => rfl) (fun f cdv A outer s H vs Q E hr h => ?_)
  · obtain ⟨p, v, rfl, _⟩ := h
    rfl
  · obtain ⟨p, v, rfl, hp, he, k⟩ := h
    refine ⟨_, (pss_cons (ps_set (i := 2) sc_L_bent.nd rfl (Or.inl rfl) (pe_callP (ok_L_draw T) (hr.mono (by decide)) (by rfl) pass0 (pa_cons (pv 0) (pa_cons pe_int pa_nil))))
      (pss_cons (ps_if (pt_val (pe_callB call_isi (by rfl) T.b_isinstance (by decide +kernel) (pa_cons (pv 1) (pa_cons (pe_bltn (v := .ty "int") (by rfl) T.b_int (by decide +kernel) rfl) pa_nil)))) (pss_one (ps_ret (pe_ix ix_list (pe_lst (pa_cons (pe_op op_add (pv 1) pe_int) (pa_cons (pe_op op_sub (pv 1) pe_int) (pa_cons (pe_op op_add (pv 1) pe_int) (pa_cons (pe_op op_sub (pe_un un_neg (pv 1)) pe_int) (pa_cons (pe_op op_mul (pv 1) pe_int) (pa_cons (pe_callTy call_str_int (by rfl) T.b_str (by decide +kernel) (pa_cons (pv 1) pa_nil)) (pa_cons (pe_tup (pa_cons (pv 1) pa_nil)) (pa_cons pe_non pa_nil))))))))) (pv 2) (fun _ _ => rfl)))) pss_nil)
      (pss_cons (ps_if (pt_val (pe_callB call_isi (by rfl) T.b_isinstance (by decide +kernel) (pa_cons (pv 1) (pa_cons (pe_bltn (v := .ty "str") (by rfl) T.b_str (by decide +kernel) rfl) pa_nil)))) (pss_cons (ps_par (i := 3) (j := 4) (by rfl) sc_L_bent.nd rfl rfl (by decide) rfl rfl (pa_cons (pe_callP (ok_L_draw T) (hr.mono (by decide)) (by rfl) pass0 (pa_cons (pv 0) (pa_cons (pe_op op_add (pe_callB call_len_str (by rfl) T.b_len (by decide +kernel) (pa_cons (pv 1) pa_nil)) pe_int) pa_nil))) (pa_cons (pe_ix ix_str pe_str (pe_callP (ok_L_draw T) (hr.mono (by decide)) (by rfl) pass0 (pa_cons (pv 0) (pa_cons pe_int pa_nil))) (fun _ _ => rfl)) pa_nil)) (by rfl))
      (pss_cons (ps_if (pt_cmp (pc_lt (pv 2) pe_int)) (pss_one (ps_ret (pe_ix ix_list (pe_lst (pa_cons (pe_op op_add_str (pe_op op_add_str (pe_slice sl_str (pv 1) po_none (po_some (pv 3))) (pv 4)) (pe_slice sl_str (pv 1) (po_some (pv 3)) po_none)) (pa_cons (pe_op op_add_str (pe_slice sl_str (pv 1) po_none (po_some (pv 3))) (pe_slice sl_str (pv 1) (po_some (pe_op op_add (pv 3) pe_int)) po_none)) pa_nil))) (pe_op op_mod (pe_callTy call_int1 (by rfl) T.b_int (by decide +kernel) (pa_cons (pv 2) pa_nil)) pe_int) (fun _ _ => rfl)))) pss_nil)
      (pss_one (ps_ret (pe_ifExp (pt_cmp (pc_eqI (pv 2) pe_int)) (pe_op op_add_str (pe_op op_add_str (pe_slice sl_str (pv 1) po_none (po_some (pv 3))) (pv 4)) (pe_slice sl_str (pv 1) (po_some (pe_op op_add (pv 3) pe_int)) po_none)) (pe_op op_add_str (pe_op op_add_str (pv 1) pe_str) (pe_ix ix_list (pe_split (pv 1) pe_str) (pe_un un_neg pe_int) (fun _ _ => rfl)))))))) pss_nil)
      (pss_cons (ps_if (PW.pt (pw_or (pt_cmp (pc_eqI (pv 2) pe_int)) (pw_or (pt_not (pt_val (pe_callB call_isi (by rfl) T.b_isinstance (by decide +kernel) (pa_cons (pv 1) (pa_cons (pe_bltn (v := .ty "tuple") (by rfl) T.b_tuple (by decide +kernel) rfl) pa_nil))))) (pw_or1 (pt_cmpR (op_eqD hr.units) (pv 1) (pe_tup pa_nil) (nomark _)))))) (pss_one (ps_ret (pe_ix ix_list (pe_lst (pa_cons pe_non (pa_cons (pe_tup (pa_cons pe_int pa_nil)) (pa_cons (pe_lst pa_nil) (pa_cons pe_int pa_nil))))) (pe_callP (ok_L_draw T) (hr.mono (by decide)) (by rfl) pass0 (pa_cons (pv 0) (pa_cons pe_int pa_nil))) (fun _ _ => rfl)))) pss_nil)
      (pss_cons (ps_set (i := 3) sc_L_bent.nd rfl (Or.inl rfl) (pe_callP (ok_L_draw T) (hr.mono (by decide)) (by rfl) pass0 (pa_cons (pv 0) (pa_cons (pe_callB call_len_seq (by rfl) T.b_len (by decide +kernel) (pa_cons (pv 1) pa_nil)) pa_nil))))
      (pss_cons (ps_if (pt_cmp (pc_eqI (pv 2) pe_int)) (pss_one (ps_ret (pe_op op_catA (pe_slice sl_tupA (pv 1) po_none (po_some (pv 3))) (pe_slice sl_tupA (pv 1) (po_some (pe_op op_add (pv 3) pe_int)) po_none)))) pss_nil)
      (pss_cons (ps_if (pt_cmp (pc_eqI (pv 2) pe_int)) (pss_one (ps_ret (pe_op op_catA (pe_op op_catA (pe_slice sl_tupA (pv 1) po_none (po_some (pv 3))) (pe_slice sl_tupA (pv 1) (po_some (pv 3)) (po_some (pe_op op_add (pv 3) pe_int)))) (pe_slice sl_tupA (pv 1) (po_some (pv 3)) po_none)))) pss_nil)
      (pss_one (ps_ret (pe_op op_catA (pe_op op_catA (pe_slice sl_tupA (pv 1) po_none (po_some (pv 3))) (pe_tup (pa_cons (pe_callP R (hr.mono (by decide)) (by rfl) pass0 (pa_cons (pv 0) (pa_cons (pe_ix ix_tup (pv 1) (pv 3) (fun _ _ => rfl)) pa_nil))) pa_nil))) (pe_slice sl_tupA (pv 1) (po_some (pe_op op_add (pv 3) pe_int)) po_none))))))))))), ?_⟩
    refine ⟨_, rfl, p, _, rfl, hp, by decide, by decide, fun r H1 r0 r1 d1 => ?_⟩
    rcases he with ⟨i, rfl, i0, i1⟩ | ⟨z, rfl, hz, _⟩
    · refine ⟨_, rfl, _, _, _, _, true, rfl, .ty _, .base (.int _), kit_ty (by decide +kernel), true, rfl, iteT ?_⟩
      refine ⟨_, rfl, _, _, rfl, rfl, _, rfl, _, _, rfl, rfl, _, rfl, _, _, rfl, rfl, _, rfl, _, rfl, _, _, rfl, rfl, _, rfl, _, _, rfl, rfl, .inr ⟨by decide, by decide⟩, _, rfl, i, rfl, log2_any i0 i1, _, rfl, (by show 1 ≤ sizeLine; decide), fun q hq => ⟨(by show 8 ≤ sizeLine; decide), fun l hl => ?_⟩⟩
      have d2 := d1.new (o := .tup [.int i]) hq
      have d3 := d2.new (o := .lst [.int (i + 1), .int (i - 1), .int (i + 10), .int (-i - 1), .int (i * 10), .str (toString i), .ref q, .non]) hl
      have g : upd (upd H1 q (.tup [.int i])) l (.lst [.int (i + 1), .int (i - 1), .int (i + 10), .int (-i - 1), .int (i * 10), .str (toString i), .ref q, .non]) q = some (.tup [.int i]) := up hl _ _ upd_same
      have r8 : r = 0 ∨ r = 1 ∨ r = 2 ∨ r = 3 ∨ r = 4 ∨ r = 5 ∨ r = 6 ∨ r = 7 := by omega
      rcases r8 with rfl | rfl | rfl | rfl | rfl | rfl | rfl | rfl
      · exact ⟨_, rfl, l, _, _, _, rfl, rfl, SqL.of upd_same, at_of (j := 0) rfl rfl, k _ _ _ (.int _) (.inl ⟨i, rfl, .inl rfl⟩) d3⟩
      · exact ⟨_, rfl, l, _, _, _, rfl, rfl, SqL.of upd_same, at_of (j := 1) rfl rfl, k _ _ _ (.int _) (.inl ⟨i, rfl, .inr (.inl rfl)⟩) d3⟩
      · exact ⟨_, rfl, l, _, _, _, rfl, rfl, SqL.of upd_same, at_of (j := 2) rfl rfl, k _ _ _ (.int _) (.inl ⟨i, rfl, .inr (.inr (.inl rfl))⟩) d3⟩
      · exact ⟨_, rfl, l, _, _, _, rfl, rfl, SqL.of upd_same, at_of (j := 3) rfl rfl, k _ _ _ (.int _) (.inl ⟨i, rfl, .inr (.inr (.inr (.inl rfl)))⟩) d3⟩
      · exact ⟨_, rfl, l, _, _, _, rfl, rfl, SqL.of upd_same, at_of (j := 4) rfl rfl, k _ _ _ (.int _) (.inl ⟨i, rfl, .inr (.inr (.inr (.inr (.inl rfl))))⟩) d3⟩
      · exact ⟨_, rfl, l, _, _, _, rfl, rfl, SqL.of upd_same, at_of (j := 5) rfl rfl, k _ _ _ (.str _) (.inl ⟨i, rfl, .inr (.inr (.inr (.inr (.inr (.inl rfl)))))⟩) d3⟩
      · exact ⟨_, rfl, l, _, _, _, rfl, rfl, SqL.of upd_same, at_of (j := 6) rfl rfl, k _ _ _ (.tup (SqT.of g) (.cons (.int i) .nil)) (.inl ⟨i, rfl, .inr (.inr (.inr (.inr (.inr (.inr (.inl rfl))))))⟩) d3⟩
      · exact ⟨_, rfl, l, _, _, _, rfl, rfl, SqL.of upd_same, at_of (j := 7) rfl rfl, k _ _ _ .non (.inl ⟨i, rfl, .inr (.inr (.inr (.inr (.inr (.inr (.inr rfl))))))⟩) d3⟩
    · refine ⟨_, rfl, _, _, _, _, false, rfl, .ty _, .base (.str _), kit_ty (a := "str") (b := "int") (by decide +kernel), false, rfl, iteF ?_⟩
      refine ⟨_, rfl, _, _, _, _, true, rfl, .ty _, .base (.str _), kit_ty (a := "str") (b := "str") (by decide +kernel), true, rfl, iteT ?_⟩
      refine ⟨_, rfl, _, rfl, _, rfl, sz (by omega), _, _, rfl, rfl, p, _, rfl, d1.at_, by show (0 : Int) < (z.length : Int) + 1; omega, by show (z.length : Int) + 1 ≤ _; omega, fun a H2 a0 a1 d2 => ?_⟩
      have a1 : a < (z.length : Int) + 1 := a1
      obtain ⟨n, rfl⟩ : ∃ n : Nat, a = (n : Int) := ⟨a.toNat, by omega⟩
      have d2 := d1.trans d2
      refine ⟨_, rfl, p, _, rfl, d2.at_, by decide, by decide, fun j H3 j0 j1 d3 => ?_⟩
      have d3 := d2.trans d3
      have e21 : signs.cps.toList.length = 21 := by decide
      obtain ⟨c, ec⟩ : ∃ c, signs.cps.toList[j.toNat]? = some c := ⟨_, List.getElem?_eq_getElem (by omega)⟩
      have hc : c ∈ signs.cps.toList := List.mem_of_getElem? ec
      have l1 := cutS_length z none (some (n : Int))
      have l2 := cutS_length z (some (n : Int)) none
      have l3 := cutS_length z (some ((n : Int) + 1)) none
      have l4 : (cutS z none (some (n : Int)) ++ ⟨#[c]⟩).length ≤ 301 := by
        rw [app_len]
        exact Nat.add_le_add (Nat.le_trans l1 hz) (show 1 ≤ 1 from Nat.le_refl 1)
      have eat : atI signs.cps.toList j = some c := by
        have z := atI_nat ec
        rwa [show ((j.toNat : Nat) : Int) = j by omega] at z
      refine ⟨_, _, c, rfl, rfl, sz (by decide), eat, _, _, rfl, ?_⟩
      refine st_eq [some (.ref p), some (.str z), some (.int r), some (.int n), some (.str ⟨#[c]⟩)] rfl ?_
      have fin : ∀ s H', OneOff z s → Drew p H H' → Q (.str s) H' := fun s H' g d => k _ _ _ (.str s) (.inr ⟨z, s, rfl, rfl, g⟩) d
      have n1 : n ≤ z.length := by omega
      have g1 : OneOff z (cutS z none (some (n : Int)) ++ ⟨#[c]⟩ ++ cutS z (some (n : Int)) none) := .inl ⟨n, c, n1, hc, .inl rfl⟩
      have g2 : OneOff z (cutS z none (some (n : Int)) ++ cutS z (some ((n : Int) + 1)) none) := .inl ⟨n, c, n1, hc, .inr (.inl rfl)⟩
      have g3 : OneOff z (cutS z none (some (n : Int)) ++ ⟨#[c]⟩ ++ cutS z (some ((n : Int) + 1)) none) := .inl ⟨n, c, n1, hc, .inr (.inr rfl)⟩
      have L : ∀ {m n : Nat}, m ≤ 301 → n ≤ 301 → m + n ≤ sizeLine := fun {m n} h1 h2 => sz (by omega)
      refine ⟨_, rfl, _, _, rfl, rfl, _, rfl, ifd (fun c6 => ?_) (fun c6 => ?_)⟩
      · refine ⟨_, rfl, _, rfl, _, rfl, _, rfl, sz (by omega), _, rfl, _, _, rfl, rfl, L (by omega) (show 1 ≤ 301 by decide), ?_⟩
        refine ⟨_, rfl, _, rfl, _, rfl, _, rfl, sz (by omega), _, _, rfl, rfl, L l4 (by omega), ?_⟩
        refine ⟨_, rfl, _, rfl, _, rfl, _, rfl, sz (by omega), _, rfl, _, rfl, _, _, rfl, rfl, _, rfl, _, rfl, sz (by omega), _, _, rfl, rfl, L (by omega) (by omega), ?_⟩
        refine ⟨(by show 2 ≤ sizeLine; decide), fun l hl => ?_⟩
        have d4 := d3.new (o := .lst [.str (cutS z none (some (n : Int)) ++ ⟨#[c]⟩ ++ cutS z (some (n : Int)) none), .str (cutS z none (some (n : Int)) ++ cutS z (some ((n : Int) + 1)) none)]) hl
        refine ⟨_, rfl, .inl ⟨_, rfl, _, _, rfl, rfl, (by show (0 : Int) < 2; decide), ?_⟩⟩
        have r2 : r % 2 = 0 ∨ r % 2 = 1 := by omega
        rcases r2 with e | e
        · exact ⟨l, _, _, _, rfl, rfl, SqL.of upd_same, at_of (j := 0) e rfl, fin _ _ g1 d4⟩
        · exact ⟨l, _, _, _, rfl, rfl, SqL.of upd_same, at_of (j := 1) e rfl, fin _ _ g2 d4⟩
      · refine ⟨_, rfl, _, _, rfl, rfl, _, rfl, ifd (fun c7 => ?_) (fun c7 => ?_)⟩
        · refine ⟨_, rfl, _, rfl, _, rfl, _, rfl, sz (by omega), _, rfl, _, _, rfl, rfl, L (by omega) (show 1 ≤ 301 by decide), ?_⟩
          refine ⟨_, rfl, _, rfl, _, _, rfl, rfl, _, rfl, _, rfl, sz (by omega), _, _, rfl, rfl, L l4 (by omega), ?_⟩
          exact fin _ _ g3 d3
        · have el : ("\n" : Str).length = 1 := rfl
          refine ⟨_, rfl, _, _, rfl, rfl, sz (by rw [el]; omega), ?_⟩
          refine ⟨_, rfl, ⟨_, rfl⟩, _, _, rfl, rfl, by decide +kernel, sz (by omega), fun l hl => ?_⟩
          obtain ⟨u, eu⟩ : ∃ u, (Txt.split z "\n").getLast? = some u := by
            have := split_pos z "\n"
            cases e : (Txt.split z "\n").getLast? with
            | some u => exact ⟨u, rfl⟩
            | none =>
              rw [List.getLast?_eq_none_iff.mp e] at this
              cases this
          have hu := List.mem_of_getLast? eu
          have hul := part_short hu
          refine ⟨_, rfl, l, _, _, .str u, rfl, rfl, SqL.of upd_same, ?_, _, _, rfl, rfl, sz (by rw [app_len, el]; omega), ?_⟩
          · obtain ⟨ys, ey⟩ := List.getLast?_eq_some_iff.mp eu
            rw [ey, List.map_append]
            exact atI_last _ _
          exact fin _ _ (.inr ⟨u, hu, rfl⟩) (d3.new hl)
end
/-! ### a tuple with something otherwise -/
theorem gn {i : Nat} {x : V} {σ : L2.St} {H : Hp} {k : L2.St → Hp → Prop} (h : k (σ.set i (some x)) H) : gName i x σ H k := h
def BentT (ds : List PyData) (d : PyData) : Prop := d = .none ∨ d = .tuple [.int 0] ∨ d = .list [] ∨ d = .int 7 ∨ ∃ (i : Nat) (e : PyData), ds[i]? = some e ∧
  (d = .tuple (ds.take i ++ ds.drop (i + 1)) ∨ d = .tuple (ds.take i ++ (e :: ds.drop i)) ∨ ∃ e', d = .tuple (ds.take i ++ (e' :: ds.drop (i + 1))) ∧ Bent0 e e')
def spBent (K : PySem.W.Frag) : Sp := fun vs H Q _ => ∃ (p a : Addr) (xs : List V), vs = [.ref p, .ref a] ∧ PurseAt H p ∧ SqT K H a xs ∧ (∀ x ∈ xs, LeafOk x) ∧ xs.length ≤ 6 ∧
  ∀ v' d' H', Dp K H' v' d' → BentT (xs.map dOf) d' → Drew p H H' → Q v' H'
theorem leafs_shaped {xs : List V} (h : ∀ x ∈ xs, LeafOk x) : SeqAt.shaped (.tuple (xs.map dOf)) = true := (shp_tuple (k := 0) fun d hd => by
  obtain ⟨x, hx, rfl⟩ := List.mem_map.mp hd
  rcases h x hx with ⟨i, rfl, _⟩ | ⟨s, rfl, _, so⟩
  · exact shp_int i
  · exact shp_str so).shaped
theorem dp_els {K : PySem.W.Frag} {H : Hp} : ∀ {xs : List V}, (∀ x ∈ xs, LeafOk x) → DpAll K H xs (xs.map dOf)
  | [], _ => .nil
  | x :: xs, h => .cons (dp_el (h x (List.mem_cons_self ..))) (dp_els fun y hy => h y (List.mem_cons_of_mem _ hy))
theorem DpAll.append {K : PySem.W.Frag} {H : Hp} : ∀ {xs ys : List V} {ds es : List PyData}, DpAll K H xs ds → DpAll K H ys es → DpAll K H (xs ++ ys) (ds ++ es)
  | _, _, _, _, .nil, h => h
  | _, _, _, _, .cons a b, h => .cons a (DpAll.append b h)
theorem drew_sqT {K : PySem.W.Frag} {p a : Addr} {H H' : Hp} {xs : List V} (hp : PurseAt H p) (d : Drew p H H') (h : SqT K H a xs) : SqT K H' a xs := by
  rcases h with (h | ⟨o, h⟩) | h
  · exact .inl (.inl (d.keep hp h (fun _ z => by cases z)))
  · exact .inl (.inr ⟨o, d.keep hp h (fun _ z => by cases z)⟩)
  · exact .inr h
/-- a slice, whether it is new or the tuple itself -/
theorem slA_any {K : PySem.W.Frag} {a : Addr} {H : Hp} {xs : List V} {lo hi : Option Int} {Q : VK} (h : SqT K H a xs) (k : ∀ b H', Same H H' → SqT K H' b (cutV xs lo hi) → Q (.ref b) H') : rSlA K (.ref a) lo hi H Q := by
  refine ⟨a, xs, rfl, h, fun z => k a H (Same.refl H) ?_, fun _ q hq => k q _ (up hq) (SqT.of upd_same)⟩
  have e : cutV xs lo hi = xs := by
    unfold cutV
    rw [z.1, z.2]
    simp
  rw [e]
  exact h
theorem slA_rest {K : PySem.W.Frag} {a : Addr} {σ : L2.St} {H : Hp} {xs : List V} {lo : Option Int} {Q : VK} (h : SqT K H a xs) (k : ∀ b H', Same H H' → SqT K H' b (cutV xs lo none) → Q (.ref b) H') : tNoPart σ H fun u H3 => rSlA K (.ref a) lo u H3 Q := slA_any h k
theorem catA_any {K : PySem.W.Frag} {a b : Addr} {H : Hp} {xs ys : List V} {Q : VK} (h : SqT K H a xs) (g : SqT K H b ys) (hl : xs.length + ys.length ≤ sizeLine) (k : ∀ c H', Same H H' → SqT K H' c (xs ++ ys) → Q (.ref c) H') : rCatA K (.ref a) (.ref b) H Q := by
  refine ⟨a, b, xs, ys, rfl, rfl, h, g, hl, fun z => k b H (Same.refl H) ?_, fun _ z => k a H (Same.refl H) ?_, fun _ _ q hq => k q _ (up hq) (SqT.of upd_same)⟩
  · rw [z]
    exact g
  · rw [z, List.append_nil]
    exact h
section
variable {P : Program} {w : World} {K : PySem.W.Frag} {mg : Str → Option Value} {base : Heap}
theorem ok_L_bent (T : Tx w K mg) : Prom P w K mg base CX0 3 "_law_bent" s_L_bent ["_law_pool_here", "_law_thing"] (spBent K) := by
  have R := bent_zero (P := P) (w := w) (base := base) T
  refine Prom.of T.d_L_bent sc_L_bent (fun vs H Q E h => ?_) (fun _ _ _ _ _ _ us hl => match us, hl with | [_, _], _ => rfl) (fun f cdv A outer s H vs Q E hr h => ?_)
  · obtain ⟨p, a, xs, rfl, _⟩ := h
    rfl
  · obtain ⟨p, a, xs, rfl, hp, hS, he, x4, k⟩ := h
    refine ⟨_, (pss_cons (ps_set (i := 2) sc_L_bent.nd rfl (Or.inl rfl) (pe_callP (ok_L_draw T) (hr.mono (by decide)) (by rfl) pass0 (pa_cons (pv 0) (pa_cons pe_int pa_nil))))
      (pss_cons (ps_if (pt_val (pe_callB call_isi (by rfl) T.b_isinstance (by decide +kernel) (pa_cons (pv 1) (pa_cons (pe_bltn (v := .ty "int") (by rfl) T.b_int (by decide +kernel) rfl) pa_nil)))) (pss_one (ps_ret (pe_ix ix_list (pe_lst (pa_cons (pe_op op_add (pv 1) pe_int) (pa_cons (pe_op op_sub (pv 1) pe_int) (pa_cons (pe_op op_add (pv 1) pe_int) (pa_cons (pe_op op_sub (pe_un un_neg (pv 1)) pe_int) (pa_cons (pe_op op_mul (pv 1) pe_int) (pa_cons (pe_callTy call_str_int (by rfl) T.b_str (by decide +kernel) (pa_cons (pv 1) pa_nil)) (pa_cons (pe_tup (pa_cons (pv 1) pa_nil)) (pa_cons pe_non pa_nil))))))))) (pv 2) (fun _ _ => rfl)))) pss_nil)
      (pss_cons (ps_if (pt_val (pe_callB call_isi (by rfl) T.b_isinstance (by decide +kernel) (pa_cons (pv 1) (pa_cons (pe_bltn (v := .ty "str") (by rfl) T.b_str (by decide +kernel) rfl) pa_nil)))) (pss_cons (ps_par (i := 3) (j := 4) (by rfl) sc_L_bent.nd rfl rfl (by decide) rfl rfl (pa_cons (pe_callP (ok_L_draw T) (hr.mono (by decide)) (by rfl) pass0 (pa_cons (pv 0) (pa_cons (pe_op op_add (pe_callB call_len_str (by rfl) T.b_len (by decide +kernel) (pa_cons (pv 1) pa_nil)) pe_int) pa_nil))) (pa_cons (pe_ix ix_str pe_str (pe_callP (ok_L_draw T) (hr.mono (by decide)) (by rfl) pass0 (pa_cons (pv 0) (pa_cons pe_int pa_nil))) (fun _ _ => rfl)) pa_nil)) (by rfl))
      (pss_cons (ps_if (pt_cmp (pc_lt (pv 2) pe_int)) (pss_one (ps_ret (pe_ix ix_list (pe_lst (pa_cons (pe_op op_add_str (pe_op op_add_str (pe_slice sl_str (pv 1) po_none (po_some (pv 3))) (pv 4)) (pe_slice sl_str (pv 1) (po_some (pv 3)) po_none)) (pa_cons (pe_op op_add_str (pe_slice sl_str (pv 1) po_none (po_some (pv 3))) (pe_slice sl_str (pv 1) (po_some (pe_op op_add (pv 3) pe_int)) po_none)) pa_nil))) (pe_op op_mod (pe_callTy call_int1 (by rfl) T.b_int (by decide +kernel) (pa_cons (pv 2) pa_nil)) pe_int) (fun _ _ => rfl)))) pss_nil)
      (pss_one (ps_ret (pe_ifExp (pt_cmp (pc_eqI (pv 2) pe_int)) (pe_op op_add_str (pe_op op_add_str (pe_slice sl_str (pv 1) po_none (po_some (pv 3))) (pv 4)) (pe_slice sl_str (pv 1) (po_some (pe_op op_add (pv 3) pe_int)) po_none)) (pe_op op_add_str (pe_op op_add_str (pv 1) pe_str) (pe_ix ix_list (pe_split (pv 1) pe_str) (pe_un un_neg pe_int) (fun _ _ => rfl)))))))) pss_nil)
      (pss_cons (ps_if (PW.pt (pw_or (pt_cmp (pc_eqI (pv 2) pe_int)) (pw_or (pt_not (pt_val (pe_callB call_isi (by rfl) T.b_isinstance (by decide +kernel) (pa_cons (pv 1) (pa_cons (pe_bltn (v := .ty "tuple") (by rfl) T.b_tuple (by decide +kernel) rfl) pa_nil))))) (pw_or1 (pt_cmpR (op_eqD hr.units) (pv 1) (pe_tup pa_nil) (nomark _)))))) (pss_one (ps_ret (pe_ix ix_list (pe_lst (pa_cons pe_non (pa_cons (pe_tup (pa_cons pe_int pa_nil)) (pa_cons (pe_lst pa_nil) (pa_cons pe_int pa_nil))))) (pe_callP (ok_L_draw T) (hr.mono (by decide)) (by rfl) pass0 (pa_cons (pv 0) (pa_cons pe_int pa_nil))) (fun _ _ => rfl)))) pss_nil)
      (pss_cons (ps_set (i := 3) sc_L_bent.nd rfl (Or.inl rfl) (pe_callP (ok_L_draw T) (hr.mono (by decide)) (by rfl) pass0 (pa_cons (pv 0) (pa_cons (pe_callB call_len_seq (by rfl) T.b_len (by decide +kernel) (pa_cons (pv 1) pa_nil)) pa_nil))))
      (pss_cons (ps_if (pt_cmp (pc_eqI (pv 2) pe_int)) (pss_one (ps_ret (pe_op op_catA (pe_slice sl_tupA (pv 1) po_none (po_some (pv 3))) (pe_slice sl_tupA (pv 1) (po_some (pe_op op_add (pv 3) pe_int)) po_none)))) pss_nil)
      (pss_cons (ps_if (pt_cmp (pc_eqI (pv 2) pe_int)) (pss_one (ps_ret (pe_op op_catA (pe_op op_catA (pe_slice sl_tupA (pv 1) po_none (po_some (pv 3))) (pe_slice sl_tupA (pv 1) (po_some (pv 3)) (po_some (pe_op op_add (pv 3) pe_int)))) (pe_slice sl_tupA (pv 1) (po_some (pv 3)) po_none)))) pss_nil)
      (pss_one (ps_ret (pe_op op_catA (pe_op op_catA (pe_slice sl_tupA (pv 1) po_none (po_some (pv 3))) (pe_tup (pa_cons (pe_callP R (hr.mono (by decide)) (by rfl) pass0 (pa_cons (pv 0) (pa_cons (pe_ix ix_tup (pv 1) (pv 3) (fun _ _ => rfl)) pa_nil))) pa_nil))) (pe_slice sl_tupA (pv 1) (po_some (pe_op op_add (pv 3) pe_int)) po_none))))))))))), ?_⟩
    refine ⟨_, rfl, p, _, rfl, hp, by decide, by decide, fun r H1 r0 r1 d1 => ?_⟩
    have hS1 := drew_sqT hp d1 hS
    have ty : TyX K H1 (.ref a) (.type "tuple") := dp_ty (.tup hS1 (dp_els he))
    refine ⟨_, rfl, _, _, _, _, false, rfl, .ty _, ty, kit_ty (a := "tuple") (b := "int") (by decide +kernel), false, rfl, iteF ?_⟩
    refine ⟨_, rfl, _, _, _, _, false, rfl, .ty _, ty, kit_ty (a := "tuple") (b := "str") (by decide +kernel), false, rfl, iteF ?_⟩
    refine ⟨_, rfl, _, _, rfl, rfl, _, rfl, ifd (fun c0 => ?_) (fun c0 => ?_)⟩
    · refine iteT ?_
      have d0 := d1
      refine ⟨(by show 1 ≤ sizeLine; decide), fun q hq => ⟨(by show 0 ≤ sizeLine; decide), fun m hm => ⟨(by show 4 ≤ sizeLine; decide), fun l hl => ?_⟩⟩⟩
      have d2 := ((d0.new (o := .tup [.int 0]) hq).new (o := .lst []) hm).new (o := .lst [.non, .ref q, .ref m, .int 7]) hl
      refine ⟨_, rfl, p, _, rfl, d2.at_, by decide, by decide, fun j G2 j0 j1 d3 => ?_⟩
      have nl : l ≠ p := PurseAt.ne ((d0.new (o := .tup [.int 0]) hq).new (o := .lst []) hm).at_ hl
      have nm : m ≠ p := PurseAt.ne (d0.new (o := .tup [.int 0]) hq).at_ hm
      have nq : q ≠ p := PurseAt.ne d0.at_ hq
      have gl := d3.kp l _ nl upd_same
      have gm := d3.kp m _ nm (up hl _ _ upd_same)
      have gq := d3.kp q _ nq (up hl _ _ (up hm _ _ upd_same))
      have dd := d2.trans d3
      have j4 : j = 0 ∨ j = 1 ∨ j = 2 ∨ j = 3 := by omega
      rcases j4 with rfl | rfl | rfl | rfl
      · exact ⟨l, _, _, _, rfl, rfl, SqL.of gl, at_of (j := 0) rfl rfl, k _ _ _ .non (.inl rfl) dd⟩
      · exact ⟨l, _, _, _, rfl, rfl, SqL.of gl, at_of (j := 1) rfl rfl, k _ _ _ (.tup (SqT.of gq) (.cons (.int 0) .nil)) (.inr (.inl rfl)) dd⟩
      · exact ⟨l, _, _, _, rfl, rfl, SqL.of gl, at_of (j := 2) rfl rfl, k _ _ _ (.lst (SqL.of gm) .nil) (.inr (.inr (.inl rfl))) dd⟩
      · exact ⟨l, _, _, _, rfl, rfl, SqL.of gl, at_of (j := 3) rfl rfl, k _ _ _ (.int 7) (.inr (.inr (.inr (.inl rfl)))) dd⟩
    · refine ⟨_, rfl, _, _, _, _, true, rfl, .ty _, ty, kit_ty (a := "tuple") (b := "tuple") (by decide +kernel), true, rfl, iteF ?_⟩
      refine ⟨_, rfl, (by show 0 ≤ sizeLine; decide), fun q hq => ?_⟩
      have hS2 := sqT_same (up (o := .tup []) hq) hS1
      have d2 := d1.new (o := .tup []) hq
      have sh := leafs_shaped he
      refine ⟨.tuple (xs.map dOf), .tuple [], .tup hS2 (dp_els he), .tup (SqT.of upd_same) .nil, sh, rfl, ?_⟩
      cases xs with
      | nil =>
        refine ⟨_, rfl, iteT ?_⟩
        have d0 := d2
        refine ⟨(by show 1 ≤ sizeLine; decide), fun q hq => ⟨(by show 0 ≤ sizeLine; decide), fun m hm => ⟨(by show 4 ≤ sizeLine; decide), fun l hl => ?_⟩⟩⟩
        have d2 := ((d0.new (o := .tup [.int 0]) hq).new (o := .lst []) hm).new (o := .lst [.non, .ref q, .ref m, .int 7]) hl
        refine ⟨_, rfl, p, _, rfl, d2.at_, by decide, by decide, fun j G2 j0 j1 d3 => ?_⟩
        have nl : l ≠ p := PurseAt.ne ((d0.new (o := .tup [.int 0]) hq).new (o := .lst []) hm).at_ hl
        have nm : m ≠ p := PurseAt.ne (d0.new (o := .tup [.int 0]) hq).at_ hm
        have nq : q ≠ p := PurseAt.ne d0.at_ hq
        have gl := d3.kp l _ nl upd_same
        have gm := d3.kp m _ nm (up hl _ _ upd_same)
        have gq := d3.kp q _ nq (up hl _ _ (up hm _ _ upd_same))
        have dd := d2.trans d3
        have j4 : j = 0 ∨ j = 1 ∨ j = 2 ∨ j = 3 := by omega
        rcases j4 with rfl | rfl | rfl | rfl
        · exact ⟨l, _, _, _, rfl, rfl, SqL.of gl, at_of (j := 0) rfl rfl, k _ _ _ .non (.inl rfl) dd⟩
        · exact ⟨l, _, _, _, rfl, rfl, SqL.of gl, at_of (j := 1) rfl rfl, k _ _ _ (.tup (SqT.of gq) (.cons (.int 0) .nil)) (.inr (.inl rfl)) dd⟩
        · exact ⟨l, _, _, _, rfl, rfl, SqL.of gl, at_of (j := 2) rfl rfl, k _ _ _ (.lst (SqL.of gm) .nil) (.inr (.inr (.inl rfl))) dd⟩
        · exact ⟨l, _, _, _, rfl, rfl, SqL.of gl, at_of (j := 3) rfl rfl, k _ _ _ (.int 7) (.inr (.inr (.inr (.inl rfl)))) dd⟩
      | cons x0 xs0 =>
      have ne0 : x0 :: xs0 ≠ [] := by simp
      generalize hxs : x0 :: xs0 = xs at *
      have ev : PyData.eqv (.tuple (xs.map dOf)) (.tuple []) = false := by
        rw [← hxs]
        rfl
      refine ⟨false, by rw [ev], iteF ?_⟩
      have x2 : 1 ≤ xs.length := by
        rw [← hxs, List.length_cons]
        omega
      refine ⟨_, rfl, _, rfl, a, xs, rfl, .inr hS2, p, _, rfl, d2.at_, by show (0 : Int) < (xs.length : Int); omega, by show (xs.length : Int) ≤ _; omega, fun i H3 i0 i1 d3 => ?_⟩
      have i1 : i < (xs.length : Int) := i1
      have hS3 := drew_sqT d2.at_ d3 hS2
      have d4 := d2.trans d3
      obtain ⟨n, rfl⟩ : ∃ n : Nat, i = (n : Int) := ⟨i.toNat, by omega⟩
      have n1 : n < xs.length := by omega
      obtain ⟨x, ex⟩ : ∃ x, xs[n]? = some x := ⟨_, List.getElem?_eq_getElem n1⟩
      have eo := he x (List.mem_of_getElem? ex)
      have ed : (xs.map dOf)[n]? = some (dOf x) := by rw [List.getElem?_map, ex]; rfl
      refine gn ?_
      refine st_eq [some (.ref p), some (.ref a), some (.int r), some (.int n), none] rfl ?_
      clear hS2 d2 hq ev d3 hS1 ty c0 i0 i1
      have e1 : ((n : Int) + 1) = ((n + 1 : Nat) : Int) := rfl
      have cT : cutV xs none (some (n : Int)) = xs.take n := cut_to (Nat.le_of_lt n1)
      have cD : cutV xs (some ((n : Int) + 1)) none = xs.drop (n + 1) := by rw [e1]; exact cut_from n1
      have cF : cutV xs (some (n : Int)) none = xs.drop n := cut_from (Nat.le_of_lt n1)
      have cI : cutV xs (some (n : Int)) (some ((n : Int) + 1)) = [x] := by
        have z := List.getElem?_eq_some_iff.mp ex
        obtain ⟨_, z⟩ := z
        unfold cutV
        rw [e1, HT.sIx_nat, HT.sIx_nat, Nat.min_eq_left (Nat.le_of_lt n1), Nat.min_eq_left (show n + 1 ≤ xs.length from n1), List.drop_eq_getElem_cons n1, z, show n + 1 - n = 1 by omega]
        rfl
      have hT : ∀ y ∈ xs.take n, LeafOk y := fun y hy => he y (List.mem_of_mem_take hy)
      have hD : ∀ m, ∀ y ∈ xs.drop m, LeafOk y := fun m y hy => he y (List.mem_of_mem_drop hy)
      have mt : (xs.take n).map dOf = (xs.map dOf).take n := List.map_take
      have md : ∀ m, (xs.drop m).map dOf = (xs.map dOf).drop m := fun m => List.map_drop
      have LT : (xs.take n).length ≤ 6 := by rw [List.length_take]; omega
      have LD : ∀ m, (xs.drop m).length ≤ 6 := fun m => by rw [List.length_drop]; omega
      refine ⟨_, rfl, _, _, rfl, rfl, _, rfl, ifd (fun c1 => ?_) (fun c1 => ?_)⟩
      · refine ⟨_, rfl, _, rfl, _, rfl, slA_any hS3 fun b1 G1 s1 t1 => ⟨_, rfl, _, rfl, _, _, rfl, rfl, _, rfl, slA_rest (sqT_same s1 hS3) fun b2 G2 s2 t2 => ?_⟩⟩
        rw [cT] at t1
        rw [cD] at t2
        refine catA_any (sqT_same s2 t1) t2 (Nat.le_trans (Nat.add_le_add LT (LD _)) (by decide)) fun c3 G3 s3 t3 => ?_
        refine k _ (.tuple ((xs.map dOf).take n ++ (xs.map dOf).drop (n + 1))) _ (.tup t3 ?_) (.inr (.inr (.inr (.inr ⟨n, _, ed, .inl rfl⟩)))) (((d4.same s1).same s2).same s3)
        rw [← mt, ← md]
        exact DpAll.append (dp_els hT) (dp_els (hD _))
      refine ⟨_, rfl, _, _, rfl, rfl, _, rfl, ifd (fun c2 => ?_) (fun c2 => ?_)⟩
      · refine ⟨_, rfl, _, rfl, _, rfl, slA_any hS3 fun b1 G1 s1 t1 => ⟨_, rfl, _, rfl, _, rfl, _, rfl, _, _, rfl, rfl, _, rfl, slA_any (sqT_same s1 hS3) fun b2 G2 s2 t2 => ?_⟩⟩
        rw [cT] at t1
        rw [cI] at t2
        refine catA_any (sqT_same s2 t1) t2 (Nat.le_trans (Nat.add_le_add LT (show 1 ≤ 6 by decide)) (by decide)) fun c3 G3 s3 t3 => ?_
        refine ⟨_, rfl, _, rfl, _, rfl, slA_rest (sqT_same s3 (sqT_same s2 (sqT_same s1 hS3))) fun b4 G4 s4 t4 => ?_⟩
        rw [cF] at t4
        refine catA_any (sqT_same s4 t3) t4 ?_ fun c5 G5 s5 t5 => ?_
        · rw [List.length_append]
          exact Nat.le_trans (Nat.add_le_add (Nat.add_le_add LT (show 1 ≤ 6 by decide)) (LD _)) (by decide)
        refine k _ (.tuple ((xs.map dOf).take n ++ (dOf x :: (xs.map dOf).drop n))) _ (.tup t5 ?_) (.inr (.inr (.inr (.inr ⟨n, _, ed, .inr (.inl rfl)⟩)))) (((((d4.same s1).same s2).same s3).same s4).same s5)
        rw [← mt, ← md, List.append_assoc]
        exact DpAll.append (dp_els hT) (.cons (dp_el eo) (dp_els (hD _)))
      · refine ⟨_, rfl, _, rfl, _, rfl, slA_any hS3 fun b1 G1 s1 t1 => ?_⟩
        rw [cT] at t1
        have d5 := d4.same s1
        refine ⟨_, rfl, _, rfl, _, rfl, a, _, _, _, rfl, rfl, sqT_same s1 hS3, at_of rfl ex, ?_⟩
        refine ⟨p, x, rfl, d5.at_, eo, fun v' d' G2 hv hb d6 => ?_⟩
        refine ⟨(by show 1 ≤ sizeLine; decide), fun q hq => ?_⟩
        have d7 := (d5.trans d6).new (o := .tup [v']) hq
        have t1' := sqT_same (up (o := .tup [v']) hq) (drew_sqT d5.at_ d6 t1)
        refine catA_any t1' (SqT.of upd_same) (Nat.le_trans (Nat.add_le_add LT (show 1 ≤ 6 by decide)) (by decide)) fun c3 G3 s3 t3 => ?_
        refine ⟨_, rfl, _, rfl, _, _, rfl, rfl, _, rfl, slA_rest (sqT_same s3 (sqT_same (up (o := .tup [v']) hq) (drew_sqT d5.at_ d6 (sqT_same s1 hS3)))) fun b4 G4 s4 t4 => ?_⟩
        rw [cD] at t4
        refine catA_any (sqT_same s4 t3) t4 ?_ fun c5 G5 s5 t5 => ?_
        · rw [List.length_append]
          exact Nat.le_trans (Nat.add_le_add (Nat.add_le_add LT (show 1 ≤ 6 by decide)) (LD _)) (by decide)
        refine k _ (.tuple ((xs.map dOf).take n ++ (d' :: (xs.map dOf).drop (n + 1)))) _ (.tup t5 ?_) (.inr (.inr (.inr (.inr ⟨n, _, ed, .inr (.inr ⟨d', rfl, hb⟩)⟩)))) (((d7.same s3).same s4).same s5)
        rw [← mt, ← md, List.append_assoc]
        exact DpAll.append (dp_els hT) (.cons (Dp.same s5 (Dp.same s4 (Dp.same s3 (Dp.same (up hq) hv)))) (dp_els (hD _)))
end
/-! ### the law's own readers of texts -/
theorem digV_digits {cs : List Nat} (h : ∀ c ∈ cs, dig c = true) : ((NumText.digitsVal cs : Nat) : Int) = digV cs := by
  unfold NumText.digitsVal digV
  have key : ∀ (cs : List Nat) (m : Nat), (∀ c ∈ cs, dig c = true) → ((cs.foldl (fun acc c => acc * 10 + (c - 48)) m : Nat) : Int) = cs.foldl (fun (a : Int) (c : Nat) => 10 * a + ((c : Int) - 48)) (m : Int) := by
    intro cs
    induction cs with
    | nil => intro m _; rfl
    | cons c cs ih =>
      intro m h
      have hc := of_decide_eq_true (h c (.head _))
      rw [List.foldl_cons, List.foldl_cons, ih _ fun d hd => h d (.tail _ hd)]
      have e : ((m * 10 + (c - 48) : Nat) : Int) = 10 * (m : Int) + ((c : Int) - 48) := by omega
      rw [e]
  exact key cs 0 h
theorem int_digits {z : Str} (h0 : z ≠ "") (h : ∀ c ∈ z.cps.toList, dig c = true) (hl : z.length ≤ 640) : PySem.intText? z = some (digV z.cps.toList) := by
  rw [intText_digits (fun c hc => of_decide_eq_true (h c hc)) (fun e => ?_) (Nat.le_trans hl (by decide)), digV_digits h]
  obtain ⟨c, cs, ec⟩ := str_ne_nil h0
  rw [ec] at e
  cases e
def spLNum : Sp := fun vs H Q _ => ∃ z : Str, vs = [.str z] ∧ z.length ≤ 640 ∧ ∀ H', Same H H' → Q (.int (numV z)) H'
section
variable {P : Program} {w : World} {K : PySem.W.Frag} {mg : Str → Option Value} {base : Heap}
theorem ok_L_number_in (T : Tx w K mg) : Prom P w K mg base CX0 1 "_law_number_in" s_L_number_in ["_law_word"] spLNum := by
  refine Prom.of T.d_L_number_in sc_L_number_in (fun vs H Q E h => ?_) (fun _ _ _ _ _ _ us hl => match us, hl with | [_], _ => rfl) (fun f cdv A outer s H vs Q E hr h => ?_)
  · obtain ⟨z, rfl, _⟩ := h
    rfl
  · obtain ⟨z, rfl, hz, k⟩ := h
    refine ⟨_, (pss_cons (ps_if (PW.pt (pw_or (pt_cmpR op_eq (pv 0) pe_str (nomark _)) (pw_or1 (PW.pt (pw_and (pt_cmpR op_eq (pe_ix ix_str (pv 0) pe_int (fun _ _ => rfl)) pe_str (nomark _)) (pw_and1 (pt_cmpR op_ne (pv 0) pe_str (nomark _)))))))) (pss_one (ps_ret (pe_un un_neg pe_int))) pss_nil)
      (pss_one (ps_ret (pe_ifExp (pt_val (pe_callB (cr_all rfl) (by rfl) T.b_all (by decide +kernel) (pa_cons (pe_lc (own := [("_law_sign", 1)]) (g := (gName 1)) (tt := tYes) (by rfl) sc_L_number_in.nd (pi_str (pv 0)) (blkOk_by (own := [("_law_sign", 1)]) (N := ["_law_word", "_law_sign"]) (sc := defScope s_L_number_in) (by decide +kernel)) (fun _ _ _ _ _ => (pg_name (i := 1) sc_L_number_in.nd rfl (Or.inl rfl))) (fun _ _ _ _ _ => pts_nil) (fun _ _ _ _ _ => (pe_cmpR op_in_sign (pv 1) pe_str (by rfl)))) pa_nil))) (pe_callTy call_int_str (by rfl) T.b_int (by decide +kernel) (pa_cons (pv 0) pa_nil)) (pe_un un_neg pe_int))))), ?_⟩
    have hz2 : z.length ≤ sizeLine := Nat.le_trans hz (by decide)
    by_cases e0 : z = ""
    · subst e0
      refine ⟨_, rfl, rfl, _, rfl, iteT ?_⟩
      exact iteT ⟨_, rfl, k _ (Same.refl H)⟩
    obtain ⟨c, cs, ec⟩ := str_ne_nil e0
    refine ⟨_, rfl, rfl, _, rfl, ifd (fun x => absurd (by cases x; rfl) e0) (fun _ => ?_)⟩
    refine ⟨_, rfl, _, _, c, rfl, rfl, hz2, atI_nat (j := 0) (by rw [ec]; rfl), rfl, _, rfl, ?_⟩
    by_cases e1 : z.cps.toList[0]? = some 48 ∧ z ≠ "0"
    · have ec0 : c = 48 := by
        have := e1.1
        rw [ec] at this
        exact Option.some.inj this
      refine ifd (fun _ => ?_) (fun x => absurd (by rw [ec0]; rfl) x)
      refine ⟨_, rfl, rfl, _, rfl, ifn (fun _ => ?_) (fun x => absurd (by cases x; rfl) e1.2)⟩
      refine ⟨_, rfl, ?_⟩
      rw [numV_zero e0 e1.1 e1.2] at k
      exact k _ (Same.refl H)
    refine ite_same2 (fun x r => ⟨_, rfl, rfl, _, rfl, ?_⟩) ?_
    · have ez : z = "0" := by
        refine Decidable.byContradiction fun y => e1 ⟨?_, y⟩
        rw [ec]
        have x := of_decide_eq_true x
        cases x
        rfl
      rw [show (!decide (V.str z = V.str (Str.ofString "0"))) = false by rw [ez]; rfl]
      exact r
    refine iteF ?_
    repeat (first | (refine And.intro ?_ ?_; · (first | exact rfl | (show (_ : Int) ≤ _; omega) | (show (_ : Int) < _; omega) | assumption | exact SqL.of upd_same | exact SqT.of upd_same | exact upd_same | exact Drew.at_ (by assumption) | exact at_of (j := 0) rfl rfl | exact at_of (j := 1) rfl rfl | exact at_of (j := 2) rfl rfl | exact at_of (j := 3) rfl rfl | exact .inr (by assumption) | exact .inl (by assumption) | exact .ty _ | exact dp_ty (by assumption) | exact kit_strD _ | exact kit_tupD _ | exact kit_intD _ | exact kit_boolD _ | exact ⟨_, rfl⟩ | decide | omega | exact (show 0 ≤ sizeLine by decide) | exact (show 1 ≤ sizeLine by decide) | exact (show 2 ≤ sizeLine by decide) | exact (show 3 ≤ sizeLine by decide) | exact (show 4 ≤ sizeLine by decide) | exact (show 5 ≤ sizeLine by decide) | exact (show 6 ≤ sizeLine by decide) | decide +kernel)) | apply Exists.intro | refine iteT ?_ | refine iteF ?_)
    intro D hD
    refine lc_str (z := z) (Pv := fun i H' => Same H H' ∧ H' D = some (.lst (((z.cps.toList.take i).map dig).map V.bl))) ⟨up hD, upd_same⟩ ?_ ?_
    · rintro i d H1 hc ⟨hs, hd⟩
      have hl : i < z.cps.toList.length := by
        rcases List.getElem?_eq_some_iff.mp hc with ⟨x, _⟩
        exact x
      have hl2 : z.cps.toList.length = z.length := Array.length_toList
      refine ⟨rfl, ?_⟩
      repeat (first | (refine And.intro ?_ ?_; · (first | exact rfl | (show (_ : Int) ≤ _; omega) | (show (_ : Int) < _; omega) | assumption | exact SqL.of upd_same | exact SqT.of upd_same | exact upd_same | exact Drew.at_ (by assumption) | exact at_of (j := 0) rfl rfl | exact at_of (j := 1) rfl rfl | exact at_of (j := 2) rfl rfl | exact at_of (j := 3) rfl rfl | exact .inr (by assumption) | exact .inl (by assumption) | exact .ty _ | exact dp_ty (by assumption) | exact kit_strD _ | exact kit_tupD _ | exact kit_intD _ | exact kit_boolD _ | exact ⟨_, rfl⟩ | decide | omega | exact (show 0 ≤ sizeLine by decide) | exact (show 1 ≤ sizeLine by decide) | exact (show 2 ≤ sizeLine by decide) | exact (show 3 ≤ sizeLine by decide) | exact (show 4 ≤ sizeLine by decide) | exact (show 5 ≤ sizeLine by decide) | exact (show 6 ≤ sizeLine by decide) | decide +kernel)) | apply Exists.intro | refine iteT ?_ | refine iteF ?_)
      refine ⟨?_, fun x o e => ?_, ?_⟩
      · rw [List.length_map, List.length_map, List.length_take, sizeLine_eq]
        omega
      · rw [upd_ne (ne_of_none e hD)]
        exact hs _ _ e
      · rw [upd_same, List.take_succ, hc, List.map_append, List.map_append, show decide (d ∈ (Str.ofString "0123456789").cps.toList) = dig d from tens_mem d]
        rfl
    · rintro H1 ⟨hs, hd⟩
      rw [show z.length = z.cps.toList.length from Array.length_toList.symm, List.take_length] at hd
      refine ⟨D, z.cps.toList.map dig, rfl, SqL.of hd, ?_⟩
      repeat (first | (refine And.intro ?_ ?_; · (first | exact rfl | (show (_ : Int) ≤ _; omega) | (show (_ : Int) < _; omega) | assumption | exact SqL.of upd_same | exact SqT.of upd_same | exact upd_same | exact Drew.at_ (by assumption) | exact at_of (j := 0) rfl rfl | exact at_of (j := 1) rfl rfl | exact at_of (j := 2) rfl rfl | exact at_of (j := 3) rfl rfl | exact .inr (by assumption) | exact .inl (by assumption) | exact .ty _ | exact dp_ty (by assumption) | exact kit_strD _ | exact kit_tupD _ | exact kit_intD _ | exact kit_boolD _ | exact ⟨_, rfl⟩ | decide | omega | exact (show 0 ≤ sizeLine by decide) | exact (show 1 ≤ sizeLine by decide) | exact (show 2 ≤ sizeLine by decide) | exact (show 3 ≤ sizeLine by decide) | exact (show 4 ≤ sizeLine by decide) | exact (show 5 ≤ sizeLine by decide) | exact (show 6 ≤ sizeLine by decide) | decide +kernel)) | apply Exists.intro | refine iteT ?_ | refine iteF ?_)
      cases ha : (z.cps.toList.map dig).all id with
      | true =>
        have ha2 : ∀ c ∈ z.cps.toList, dig c = true := fun c hc => List.all_eq_true.mp ha _ (List.mem_map.mpr ⟨c, hc, rfl⟩)
        repeat (first | (refine And.intro ?_ ?_; · (first | exact rfl | (show (_ : Int) ≤ _; omega) | (show (_ : Int) < _; omega) | assumption | exact SqL.of upd_same | exact SqT.of upd_same | exact upd_same | exact Drew.at_ (by assumption) | exact at_of (j := 0) rfl rfl | exact at_of (j := 1) rfl rfl | exact at_of (j := 2) rfl rfl | exact at_of (j := 3) rfl rfl | exact .inr (by assumption) | exact .inl (by assumption) | exact .ty _ | exact dp_ty (by assumption) | exact kit_strD _ | exact kit_tupD _ | exact kit_intD _ | exact kit_boolD _ | exact ⟨_, rfl⟩ | decide | omega | exact (show 0 ≤ sizeLine by decide) | exact (show 1 ≤ sizeLine by decide) | exact (show 2 ≤ sizeLine by decide) | exact (show 3 ≤ sizeLine by decide) | exact (show 4 ≤ sizeLine by decide) | exact (show 5 ≤ sizeLine by decide) | exact (show 6 ≤ sizeLine by decide) | decide +kernel)) | apply Exists.intro | refine iteT ?_ | refine iteF ?_)
        refine ⟨int_digits e0 ha2 hz, ?_⟩
        repeat (first | (refine And.intro ?_ ?_; · (first | exact rfl | (show (_ : Int) ≤ _; omega) | (show (_ : Int) < _; omega) | assumption | exact SqL.of upd_same | exact SqT.of upd_same | exact upd_same | exact Drew.at_ (by assumption) | exact at_of (j := 0) rfl rfl | exact at_of (j := 1) rfl rfl | exact at_of (j := 2) rfl rfl | exact at_of (j := 3) rfl rfl | exact .inr (by assumption) | exact .inl (by assumption) | exact .ty _ | exact dp_ty (by assumption) | exact kit_strD _ | exact kit_tupD _ | exact kit_intD _ | exact kit_boolD _ | exact ⟨_, rfl⟩ | decide | omega | exact (show 0 ≤ sizeLine by decide) | exact (show 1 ≤ sizeLine by decide) | exact (show 2 ≤ sizeLine by decide) | exact (show 3 ≤ sizeLine by decide) | exact (show 4 ≤ sizeLine by decide) | exact (show 5 ≤ sizeLine by decide) | exact (show 6 ≤ sizeLine by decide) | decide +kernel)) | apply Exists.intro | refine iteT ?_ | refine iteF ?_)
        rw [← numV_all e0 e1 ha2]
        exact k _ hs
      | false =>
        rw [List.all_eq_false] at ha
        obtain ⟨b, hb, hn⟩ := ha
        obtain ⟨c, hc, rfl⟩ := List.mem_map.mp hb
        have hn : dig c = false := Bool.not_eq_true _ ▸ hn
        repeat (first | (refine And.intro ?_ ?_; · (first | exact rfl | (show (_ : Int) ≤ _; omega) | (show (_ : Int) < _; omega) | assumption | exact SqL.of upd_same | exact SqT.of upd_same | exact upd_same | exact Drew.at_ (by assumption) | exact at_of (j := 0) rfl rfl | exact at_of (j := 1) rfl rfl | exact at_of (j := 2) rfl rfl | exact at_of (j := 3) rfl rfl | exact .inr (by assumption) | exact .inl (by assumption) | exact .ty _ | exact dp_ty (by assumption) | exact kit_strD _ | exact kit_tupD _ | exact kit_intD _ | exact kit_boolD _ | exact ⟨_, rfl⟩ | decide | omega | exact (show 0 ≤ sizeLine by decide) | exact (show 1 ≤ sizeLine by decide) | exact (show 2 ≤ sizeLine by decide) | exact (show 3 ≤ sizeLine by decide) | exact (show 4 ≤ sizeLine by decide) | exact (show 5 ≤ sizeLine by decide) | exact (show 6 ≤ sizeLine by decide) | decide +kernel)) | apply Exists.intro | refine iteT ?_ | refine iteF ?_)
        rw [numV_not hc hn] at k
        exact k _ hs
end
theorem mkA {kw : Str} (h : kw = "plus" ∨ kw = "told" ∨ kw = "whole") (ns : List Int) : (mkW kw ns).isSome = true ↔ ∃ c, ns = [c] ∧ 0 ≤ c ∧ c ≤ 1000 := by
  match ns with
  | [c] =>
    have e : mkW kw [c] = none ∨ 0 ≤ c ∧ c ≤ 1000 := by
      rcases h with rfl | rfl | rfl <;> (by_cases z : 0 ≤ c ∧ c ≤ 1000; exact .inr z; exact .inl (if_neg z))
    refine ⟨fun x => ?_, fun ⟨d, z, z1, z2⟩ => ?_⟩
    · rcases e with e | e
      · rw [e] at x
        cases x
      · exact ⟨c, rfl, e⟩
    · cases z
      rcases h with rfl | rfl | rfl
      · rw [show mkW "plus" [c] = _ from mkW_ok (a := .plus c) ⟨z1, z2⟩]; rfl
      · rw [show mkW "told" [c] = _ from mkW_ok (a := .told c) ⟨z1, z2⟩]; rfl
      · rw [show mkW "whole" [c] = _ from mkW_ok (a := .whole c) ⟨z1, z2⟩]; rfl
  | [] => exact ⟨fun x => (by cases x), fun ⟨_, z, _⟩ => by cases z⟩
  | [m, c] => exact ⟨fun x => (by rcases h with rfl | rfl | rfl <;> cases x), fun ⟨_, z, _⟩ => by cases z⟩
  | _ :: _ :: _ :: _ => exact ⟨fun x => (by cases x), fun ⟨_, z, _⟩ => by cases z⟩
theorem mkB {kw : Str} (h : kw = "pieces" ∨ kw = "cut") (ns : List Int) : (mkW kw ns).isSome = true ↔ ∃ m c, ns = [m, c] ∧ 1 ≤ m ∧ m ≤ 60 ∧ 0 ≤ c ∧ c ≤ 60 := by
  match ns with
  | [m, c] =>
    have e : mkW kw [m, c] = none ∨ 1 ≤ m ∧ m ≤ 60 ∧ 0 ≤ c ∧ c ≤ 60 := by
      rcases h with rfl | rfl <;> (by_cases z : 1 ≤ m ∧ m ≤ 60 ∧ 0 ≤ c ∧ c ≤ 60; exact .inr z; exact .inl (if_neg z))
    refine ⟨fun x => ?_, fun ⟨m', c', z, z1⟩ => ?_⟩
    · rcases e with e | e
      · rw [e] at x
        cases x
      · exact ⟨m, c, rfl, e⟩
    · cases z
      rcases h with rfl | rfl
      · rw [show mkW "pieces" [m, c] = _ from mkW_ok (a := .pieces m c) z1]; rfl
      · rw [show mkW "cut" [m, c] = _ from mkW_ok (a := .cut m c) z1]; rfl
  | [] => exact ⟨fun x => (by cases x), fun ⟨_, _, z, _⟩ => by cases z⟩
  | [c] => exact ⟨fun x => (by rcases h with rfl | rfl <;> cases x), fun ⟨_, _, z, _⟩ => by cases z⟩
  | _ :: _ :: _ :: _ => exact ⟨fun x => (by cases x), fun ⟨_, _, z, _⟩ => by cases z⟩
theorem mkC (ns : List Int) : (mkW "coded" ns).isSome = true ↔ ∃ m c, ns = [m, c] ∧ 1 ≤ m ∧ m ≤ 60 ∧ m ≤ c ∧ c ≤ 120 := by
  match ns with
  | [m, c] =>
    have e : mkW "coded" [m, c] = none ∨ 1 ≤ m ∧ m ≤ 60 ∧ m ≤ c ∧ c ≤ 120 := by
      by_cases z : 1 ≤ m ∧ m ≤ 60 ∧ m ≤ c ∧ c ≤ 120
      · exact .inr z
      · exact .inl (if_neg z)
    refine ⟨fun x => ?_, fun ⟨m', c', z, z1⟩ => ?_⟩
    · rcases e with e | e
      · rw [e] at x
        cases x
      · exact ⟨m, c, rfl, e⟩
    · cases z
      rw [show mkW "coded" [m, c] = _ from mkW_ok (a := .coded m c) z1]; rfl
  | [] => exact ⟨fun x => (by cases x), fun ⟨_, _, z, _⟩ => by cases z⟩
  | [c] => exact ⟨fun x => (by cases x), fun ⟨_, _, z, _⟩ => by cases z⟩
  | _ :: _ :: _ :: _ => exact ⟨fun x => (by cases x), fun ⟨_, _, z, _⟩ => by cases z⟩
theorem mkD (ns : List Int) : (mkW "filled" ns).isSome = true ↔ ∃ c, ns = [c] ∧ 1 ≤ c ∧ c ≤ 60 := by
  match ns with
  | [c] =>
    have e : mkW "filled" [c] = none ∨ 1 ≤ c ∧ c ≤ 60 := by
      by_cases z : 1 ≤ c ∧ c ≤ 60
      · exact .inr z
      · exact .inl (if_neg z)
    refine ⟨fun x => ?_, fun ⟨c', z, z1⟩ => ?_⟩
    · rcases e with e | e
      · rw [e] at x
        cases x
      · exact ⟨c, rfl, e⟩
    · cases z
      rw [show mkW "filled" [c] = _ from mkW_ok (a := .filled c) z1]; rfl
  | [] => exact ⟨fun x => (by cases x), fun ⟨_, z, _⟩ => by cases z⟩
  | [m, c] => exact ⟨fun x => (by cases x), fun ⟨_, z, _⟩ => by cases z⟩
  | _ :: _ :: _ :: _ => exact ⟨fun x => (by cases x), fun ⟨_, z, _⟩ => by cases z⟩
def TagRd (H : Hp) (v : V) (t : Str) : Prop := (v = .non ∧ rdW t = none) ∨ ∃ q a, v = .ref q ∧ TagAt H q a ∧ rdW t = some a
def spTagIn : Sp := fun vs H Q _ => ∃ z, vs = [.str z] ∧ z.length ≤ 640 ∧ ∀ v H', Same H H' → TagRd H' v z → Q v H'
section
variable {P : Program} {w : World} {K : PySem.W.Frag} {mg : Str → Option Value} {base : Heap}
theorem ok_L_tag_in (T : Tx w K mg) : Prom P w K mg base CX0 2 "_law_tag_in" s_L_tag_in ["_law_line"] spTagIn := by
  refine Prom.of T.d_L_tag_in sc_L_tag_in (fun vs H Q E h => ?_) (fun _ _ _ _ _ _ us hl => match us, hl with | [_], _ => rfl) (fun f cdv A outer s H vs Q E hr h => ?_)
  · obtain ⟨z, rfl, _⟩ := h
    rfl
  · obtain ⟨z, rfl, hz, k⟩ := h
    refine ⟨_, (pss_cons (ps_set (i := 1) sc_L_tag_in.nd rfl (Or.inl rfl) (pe_split (pv 0) pe_str))
      (pss_cons (ps_setLc (i := 2) (own := [("_law_word", 4)]) (g := (gName 4)) (tt := tYes) (by rfl) sc_L_tag_in.nd rfl rfl (sw_true rfl rfl rfl (by decide +kernel)) (pi_list (pe_slice sl_list (pv 1) (po_some pe_int) po_none)) (blkOk_by (own := [("_law_word", 4)]) (N := ["_law_line", "_law_words_here", "_law_some", "_law_good", "_law_word"]) (sc := defScope s_L_tag_in) (by decide +kernel)) (fun _ _ _ _ _ => (pg_name (i := 4) sc_L_tag_in.nd rfl (Or.inl rfl))) (fun _ _ _ _ _ => pts_nil) (fun _ _ _ _ _ => (pe_callP (ok_L_number_in T) (hr.mono (by decide)) (by rfl) pass0 (pa_cons (pv 4) pa_nil))))
      (pss_cons (ps_mid (ps_if (pt_cmpR op_in_seq (pe_ix ix_list (pv 1) pe_int (fun _ _ => rfl)) (pe_lst (pa_cons pe_str (pa_cons pe_str (pa_cons pe_str pa_nil)))) (by rfl)) (pss_one (ps_set (i := 3) sc_L_tag_in.nd rfl (Or.inl rfl) (pe_and (pe_cmp (pc_eqI (pe_callB call_len_seq (by rfl) T.b_len (by decide +kernel) (pa_cons (pv 2) pa_nil)) pe_int)) (pe_one (pe_chain op_le op_le pe_int (pe_ix ix_list (pv 2) pe_int (fun _ _ => rfl)) pe_int))))) (pss_one (ps_if (pt_cmpR op_in_seq (pe_ix ix_list (pv 1) pe_int (fun _ _ => rfl)) (pe_lst (pa_cons pe_str (pa_cons pe_str pa_nil))) (by rfl)) (pss_one (ps_set (i := 3) sc_L_tag_in.nd rfl (Or.inl rfl) (pe_and (pe_cmp (pc_eqI (pe_callB call_len_seq (by rfl) T.b_len (by decide +kernel) (pa_cons (pv 2) pa_nil)) pe_int)) (pe_and (pe_chain op_le op_le pe_int (pe_ix ix_list (pv 2) pe_int (fun _ _ => rfl)) pe_int) (pe_one (pe_chain op_le op_le pe_int (pe_ix ix_list (pv 2) pe_int (fun _ _ => rfl)) pe_int)))))) (pss_one (ps_if (pt_cmpR op_eq (pe_ix ix_list (pv 1) pe_int (fun _ _ => rfl)) pe_str (nomark _)) (pss_one (ps_set (i := 3) sc_L_tag_in.nd rfl (Or.inl rfl) (pe_and (pe_cmp (pc_eqI (pe_callB call_len_seq (by rfl) T.b_len (by decide +kernel) (pa_cons (pv 2) pa_nil)) pe_int)) (pe_and (pe_chain op_le op_le pe_int (pe_ix ix_list (pv 2) pe_int (fun _ _ => rfl)) pe_int) (pe_one (pe_chain op_le op_le (pe_ix ix_list (pv 2) pe_int (fun _ _ => rfl)) (pe_ix ix_list (pv 2) pe_int (fun _ _ => rfl)) pe_int)))))) (pss_one (ps_set (i := 3) sc_L_tag_in.nd rfl (Or.inl rfl) (pe_and (pe_cmpR op_eq (pe_ix ix_list (pv 1) pe_int (fun _ _ => rfl)) pe_str (nomark _)) (pe_and (pe_cmp (pc_eqI (pe_callB call_len_seq (by rfl) T.b_len (by decide +kernel) (pa_cons (pv 2) pa_nil)) pe_int)) (pe_one (pe_chain op_le op_le pe_int (pe_ix ix_list (pv 2) pe_int (fun _ _ => rfl)) pe_int))))))))))))
      (pss_one (ps_ret (pe_ifExp (pt_val (pv 3)) (pe_callTy call_tuple_of (by rfl) T.b_tuple (by decide +kernel) (pa_cons (pe_op op_cat (pe_lst (pa_cons (pe_ix ix_list (pv 1) pe_int (fun _ _ => rfl)) pa_nil)) (pv 2)) pa_nil)) pe_non)))))), ?_⟩
    obtain ⟨kw, ws, es1⟩ : ∃ kw ws, Txt.split z " " = kw :: ws := by
      match e : Txt.split z " " with
      | k :: ws => exact ⟨k, ws, rfl⟩
      | [] =>
        have := split_pos z " "
        rw [e] at this
        simp at this
    have short : ∀ y ∈ kw :: ws, y.length ≤ 640 := fun y hy => Nat.le_trans (part_short (x := z) (y := " ") (by rw [es1]; exact hy)) hz
    have hws : ws.length ≤ 642 := by
      have := split_le z " "
      rw [es1, List.length_cons] at this
      omega
    have er : rdW z = mkW kw (ws.map numV) := by
      unfold rdW
      rw [es1]
    refine ⟨_, rfl, ⟨_, rfl⟩, _, _, rfl, rfl, by decide +kernel, Nat.le_trans (Nat.add_le_add_right hz 2) (by decide), fun l hl => ?_⟩
    rw [es1]
    have s1 : Same H (upd H l (.lst ((kw :: ws).map V.str))) := up hl
    have hL : SqL K (upd H l (.lst ((kw :: ws).map V.str))) l ((kw :: ws).map V.str) := SqL.of upd_same
    generalize upd H l (.lst ((kw :: ws).map V.str)) = H1 at *
    repeat (first | (refine And.intro ?_ ?_; · (first | exact rfl | (show (_ : Int) ≤ _; omega) | (show (_ : Int) < _; omega) | assumption | exact SqL.of upd_same | exact SqT.of upd_same | exact upd_same | exact Drew.at_ (by assumption) | exact at_of (j := 0) rfl rfl | exact at_of (j := 1) rfl rfl | exact at_of (j := 2) rfl rfl | exact at_of (j := 3) rfl rfl | exact .inr (by assumption) | exact .inl (by assumption) | exact .ty _ | exact dp_ty (by assumption) | exact kit_strD _ | exact kit_tupD _ | exact kit_intD _ | exact kit_boolD _ | exact ⟨_, rfl⟩ | decide | omega | exact (show 0 ≤ sizeLine by decide) | exact (show 1 ≤ sizeLine by decide) | exact (show 2 ≤ sizeLine by decide) | exact (show 3 ≤ sizeLine by decide) | exact (show 4 ≤ sizeLine by decide) | exact (show 5 ≤ sizeLine by decide) | exact (show 6 ≤ sizeLine by decide) | decide +kernel)) | apply Exists.intro | refine iteT ?_ | refine iteF ?_)
    intro q hq
    rw [List.map_cons, cut1]
    have s2 : Same H (upd H1 q (.lst (ws.map V.str))) := fun x o e => up hq _ _ (s1 _ _ e)
    have hL2 := sqL_same (up (o := .lst (ws.map V.str)) hq) hL
    have hq2 : SqL K (upd H1 q (.lst (ws.map V.str))) q (ws.map V.str) := SqL.of upd_same
    generalize upd H1 q (.lst (ws.map V.str)) = H2 at *
    refine ⟨_, rfl, ⟨_, hq2⟩, fun D hD => ?_⟩
    refine lc_list (K := K) (a := q) (xs := ws.map V.str) (Pv := fun j H' => Same H2 H' ∧ H' D = some (.lst (((ws.take j).map numV).map V.int))) ⟨up hD, upd_same⟩ (fun j H' _ h => sqL_same h.1 hq2) ?_ ?_
    · rintro j x H3 hj ⟨hs, hd⟩
      obtain ⟨y, hy, rfl⟩ : ∃ y, ws[j]? = some y ∧ x = V.str y := by
        rw [List.getElem?_map] at hj
        cases e : ws[j]? with
        | none =>
          rw [e] at hj
          cases hj
        | some n =>
          rw [e] at hj
          exact ⟨n, rfl, (Option.some.inj hj).symm⟩
      have hjl : j < ws.length := by
        rcases List.getElem?_eq_some_iff.mp hy with ⟨z, _⟩
        exact z
      refine ⟨rfl, ?_⟩
      have hy6 := short y (.tail _ (List.mem_of_getElem? hy))
      repeat (first | (refine And.intro ?_ ?_; · (first | exact rfl | (show (_ : Int) ≤ _; omega) | (show (_ : Int) < _; omega) | assumption | exact SqL.of upd_same | exact SqT.of upd_same | exact upd_same | exact Drew.at_ (by assumption) | exact at_of (j := 0) rfl rfl | exact at_of (j := 1) rfl rfl | exact at_of (j := 2) rfl rfl | exact at_of (j := 3) rfl rfl | exact .inr (by assumption) | exact .inl (by assumption) | exact .ty _ | exact dp_ty (by assumption) | exact kit_strD _ | exact kit_tupD _ | exact kit_intD _ | exact kit_boolD _ | exact ⟨_, rfl⟩ | decide | omega | exact (show 0 ≤ sizeLine by decide) | exact (show 1 ≤ sizeLine by decide) | exact (show 2 ≤ sizeLine by decide) | exact (show 3 ≤ sizeLine by decide) | exact (show 4 ≤ sizeLine by decide) | exact (show 5 ≤ sizeLine by decide) | exact (show 6 ≤ sizeLine by decide) | decide +kernel)) | apply Exists.intro | refine iteT ?_ | refine iteF ?_)
      intro H4 s4
      refine ⟨_, s4 _ _ hd, ?_, fun x o e => ?_, ?_⟩
      · rw [List.length_map, List.length_map, List.length_take, sizeLine_eq]
        omega
      · rw [upd_ne (ne_of_none e hD)]
        exact s4 _ _ (hs _ _ e)
      · rw [upd_same, List.take_succ, hy, List.map_append, List.map_append]
        rfl
    rintro H3 ⟨hs, hd⟩
    rw [List.length_map, List.take_length] at hd
    have s3 : Same H H3 := fun x o e => hs _ _ (s2 _ _ e)
    have hL3 := sqL_same hs hL2
    have hD3 : SqL K H3 D ((ws.map numV).map V.int) := SqL.of hd
    generalize ws.map numV = ns at *
    rw [List.map_cons] at hL3
    refine ⟨fun σ' H' => ∃ g : Bool, Same H3 H' ∧ (g = true ↔ (mkW kw ns).isSome = true) ∧ σ' = [some (.str z), some (.ref l), some (.ref D), some (.bl g), none], ?_, ?_⟩; rotate_left
    · repeat (first | (refine And.intro ?_ ?_; · (first | exact rfl | (show (_ : Int) ≤ _; omega) | (show (_ : Int) < _; omega) | assumption | exact SqL.of upd_same | exact SqT.of upd_same | exact upd_same | exact Drew.at_ (by assumption) | exact at_of (j := 0) rfl rfl | exact at_of (j := 1) rfl rfl | exact at_of (j := 2) rfl rfl | exact at_of (j := 3) rfl rfl | exact .inr (by assumption) | exact .inl (by assumption) | exact .ty _ | exact dp_ty (by assumption) | exact kit_strD _ | exact kit_tupD _ | exact kit_intD _ | exact kit_boolD _ | exact ⟨_, rfl⟩ | decide | omega | exact (show 0 ≤ sizeLine by decide) | exact (show 1 ≤ sizeLine by decide) | exact (show 2 ≤ sizeLine by decide) | exact (show 3 ≤ sizeLine by decide) | exact (show 4 ≤ sizeLine by decide) | exact (show 5 ≤ sizeLine by decide) | exact (show 6 ≤ sizeLine by decide) | decide +kernel)) | apply Exists.intro | refine iteT ?_ | refine iteF ?_)
      intro p hp
      have s4 : Same H3 (upd H3 p (.lst [.str "plus", .str "told", .str "whole"])) := up hp
      have hL4 := sqL_same s4 hL3
      have hD4 := sqL_same s4 hD3
      have hp4 : SqL K (upd H3 p (.lst [.str "plus", .str "told", .str "whole"])) p [.str "plus", .str "told", .str "whole"] := SqL.of upd_same
      generalize upd H3 p (.lst [.str "plus", .str "told", .str "whole"]) = H4 at *
      repeat (first | (refine And.intro ?_ ?_; · (first | exact rfl | (show (_ : Int) ≤ _; omega) | (show (_ : Int) < _; omega) | assumption | exact SqL.of upd_same | exact SqT.of upd_same | exact upd_same | exact Drew.at_ (by assumption) | exact at_of (j := 0) rfl rfl | exact at_of (j := 1) rfl rfl | exact at_of (j := 2) rfl rfl | exact at_of (j := 3) rfl rfl | exact .inr (by assumption) | exact .inl (by assumption) | exact .ty _ | exact dp_ty (by assumption) | exact kit_strD _ | exact kit_tupD _ | exact kit_intD _ | exact kit_boolD _ | exact ⟨_, rfl⟩ | decide | omega | exact (show 0 ≤ sizeLine by decide) | exact (show 1 ≤ sizeLine by decide) | exact (show 2 ≤ sizeLine by decide) | exact (show 3 ≤ sizeLine by decide) | exact (show 4 ≤ sizeLine by decide) | exact (show 5 ≤ sizeLine by decide) | exact (show 6 ≤ sizeLine by decide) | decide +kernel)) | apply Exists.intro | refine iteT ?_ | refine iteF ?_)
      refine ifs (fun hA => ?_) (fun hA => ?_)
      · have hm := mkA hA ns
        repeat (first | (refine And.intro ?_ ?_; · (first | exact rfl | (show (_ : Int) ≤ _; omega) | (show (_ : Int) < _; omega) | assumption | exact SqL.of upd_same | exact SqT.of upd_same | exact upd_same | exact Drew.at_ (by assumption) | exact at_of (j := 0) rfl rfl | exact at_of (j := 1) rfl rfl | exact at_of (j := 2) rfl rfl | exact at_of (j := 3) rfl rfl | exact .inr (by assumption) | exact .inl (by assumption) | exact .ty _ | exact dp_ty (by assumption) | exact kit_strD _ | exact kit_tupD _ | exact kit_intD _ | exact kit_boolD _ | exact ⟨_, rfl⟩ | decide | omega | exact (show 0 ≤ sizeLine by decide) | exact (show 1 ≤ sizeLine by decide) | exact (show 2 ≤ sizeLine by decide) | exact (show 3 ≤ sizeLine by decide) | exact (show 4 ≤ sizeLine by decide) | exact (show 5 ≤ sizeLine by decide) | exact (show 6 ≤ sizeLine by decide) | decide +kernel)) | apply Exists.intro | refine iteT ?_ | refine iteF ?_)
        refine ifd (fun c1 => ?_) (fun c1 => ?_)
        · obtain ⟨c, rfl⟩ := one_of c1
          repeat (first | (refine And.intro ?_ ?_; · (first | exact rfl | (show (_ : Int) ≤ _; omega) | (show (_ : Int) < _; omega) | assumption | exact SqL.of upd_same | exact SqT.of upd_same | exact upd_same | exact Drew.at_ (by assumption) | exact at_of (j := 0) rfl rfl | exact at_of (j := 1) rfl rfl | exact at_of (j := 2) rfl rfl | exact at_of (j := 3) rfl rfl | exact .inr (by assumption) | exact .inl (by assumption) | exact .ty _ | exact dp_ty (by assumption) | exact kit_strD _ | exact kit_tupD _ | exact kit_intD _ | exact kit_boolD _ | exact ⟨_, rfl⟩ | decide | omega | exact (show 0 ≤ sizeLine by decide) | exact (show 1 ≤ sizeLine by decide) | exact (show 2 ≤ sizeLine by decide) | exact (show 3 ≤ sizeLine by decide) | exact (show 4 ≤ sizeLine by decide) | exact (show 5 ≤ sizeLine by decide) | exact (show 6 ≤ sizeLine by decide) | decide +kernel)) | apply Exists.intro | refine iteT ?_ | refine iteF ?_)
          refine ifd (fun c2 => ?_) (fun c2 => ?_)
          · repeat (first | (refine And.intro ?_ ?_; · (first | exact rfl | (show (_ : Int) ≤ _; omega) | (show (_ : Int) < _; omega) | assumption | exact SqL.of upd_same | exact SqT.of upd_same | exact upd_same | exact Drew.at_ (by assumption) | exact at_of (j := 0) rfl rfl | exact at_of (j := 1) rfl rfl | exact at_of (j := 2) rfl rfl | exact at_of (j := 3) rfl rfl | exact .inr (by assumption) | exact .inl (by assumption) | exact .ty _ | exact dp_ty (by assumption) | exact kit_strD _ | exact kit_tupD _ | exact kit_intD _ | exact kit_boolD _ | exact ⟨_, rfl⟩ | decide | omega | exact (show 0 ≤ sizeLine by decide) | exact (show 1 ≤ sizeLine by decide) | exact (show 2 ≤ sizeLine by decide) | exact (show 3 ≤ sizeLine by decide) | exact (show 4 ≤ sizeLine by decide) | exact (show 5 ≤ sizeLine by decide) | exact (show 6 ≤ sizeLine by decide) | decide +kernel)) | apply Exists.intro | refine iteT ?_ | refine iteF ?_)
            exact ⟨⟨fun z => hm.mpr ⟨c, rfl, c2, of_decide_eq_true z⟩, fun z => by
              obtain ⟨d, e, z1, z2⟩ := hm.mp z
              cases e
              exact decide_eq_true z2⟩, rfl⟩
          · repeat (first | (refine And.intro ?_ ?_; · (first | exact rfl | (show (_ : Int) ≤ _; omega) | (show (_ : Int) < _; omega) | assumption | exact SqL.of upd_same | exact SqT.of upd_same | exact upd_same | exact Drew.at_ (by assumption) | exact at_of (j := 0) rfl rfl | exact at_of (j := 1) rfl rfl | exact at_of (j := 2) rfl rfl | exact at_of (j := 3) rfl rfl | exact .inr (by assumption) | exact .inl (by assumption) | exact .ty _ | exact dp_ty (by assumption) | exact kit_strD _ | exact kit_tupD _ | exact kit_intD _ | exact kit_boolD _ | exact ⟨_, rfl⟩ | decide | omega | exact (show 0 ≤ sizeLine by decide) | exact (show 1 ≤ sizeLine by decide) | exact (show 2 ≤ sizeLine by decide) | exact (show 3 ≤ sizeLine by decide) | exact (show 4 ≤ sizeLine by decide) | exact (show 5 ≤ sizeLine by decide) | exact (show 6 ≤ sizeLine by decide) | decide +kernel)) | apply Exists.intro | refine iteT ?_ | refine iteF ?_)
            exact ⟨nb fun z => by
              obtain ⟨d, e, z1, z2⟩ := hm.mp z
              cases e
              exact c2 z1, rfl⟩
        · repeat (first | (refine And.intro ?_ ?_; · (first | exact rfl | (show (_ : Int) ≤ _; omega) | (show (_ : Int) < _; omega) | assumption | exact SqL.of upd_same | exact SqT.of upd_same | exact upd_same | exact Drew.at_ (by assumption) | exact at_of (j := 0) rfl rfl | exact at_of (j := 1) rfl rfl | exact at_of (j := 2) rfl rfl | exact at_of (j := 3) rfl rfl | exact .inr (by assumption) | exact .inl (by assumption) | exact .ty _ | exact dp_ty (by assumption) | exact kit_strD _ | exact kit_tupD _ | exact kit_intD _ | exact kit_boolD _ | exact ⟨_, rfl⟩ | decide | omega | exact (show 0 ≤ sizeLine by decide) | exact (show 1 ≤ sizeLine by decide) | exact (show 2 ≤ sizeLine by decide) | exact (show 3 ≤ sizeLine by decide) | exact (show 4 ≤ sizeLine by decide) | exact (show 5 ≤ sizeLine by decide) | exact (show 6 ≤ sizeLine by decide) | decide +kernel)) | apply Exists.intro | refine iteT ?_ | refine iteF ?_)
          exact ⟨nb fun z => by
            obtain ⟨d, e, z1, z2⟩ := hm.mp z
            rw [e] at c1
            exact c1 rfl, rfl⟩
      repeat (first | (refine And.intro ?_ ?_; · (first | exact rfl | (show (_ : Int) ≤ _; omega) | (show (_ : Int) < _; omega) | assumption | exact SqL.of upd_same | exact SqT.of upd_same | exact upd_same | exact Drew.at_ (by assumption) | exact at_of (j := 0) rfl rfl | exact at_of (j := 1) rfl rfl | exact at_of (j := 2) rfl rfl | exact at_of (j := 3) rfl rfl | exact .inr (by assumption) | exact .inl (by assumption) | exact .ty _ | exact dp_ty (by assumption) | exact kit_strD _ | exact kit_tupD _ | exact kit_intD _ | exact kit_boolD _ | exact ⟨_, rfl⟩ | decide | omega | exact (show 0 ≤ sizeLine by decide) | exact (show 1 ≤ sizeLine by decide) | exact (show 2 ≤ sizeLine by decide) | exact (show 3 ≤ sizeLine by decide) | exact (show 4 ≤ sizeLine by decide) | exact (show 5 ≤ sizeLine by decide) | exact (show 6 ≤ sizeLine by decide) | decide +kernel)) | apply Exists.intro | refine iteT ?_ | refine iteF ?_)
      intro p2 hp2
      have s5 : Same H3 (upd H4 p2 (.lst [.str "pieces", .str "cut"])) := fun x o e => up hp2 _ _ (s4 _ _ e)
      have s45 : Same H4 (upd H4 p2 (.lst [.str "pieces", .str "cut"])) := up hp2
      have hL5 := sqL_same s45 hL4
      have hD5 := sqL_same s45 hD4
      have hp5 : SqL K (upd H4 p2 (.lst [.str "pieces", .str "cut"])) p2 [.str "pieces", .str "cut"] := SqL.of upd_same
      generalize upd H4 p2 (.lst [.str "pieces", .str "cut"]) = H5 at *
      repeat (first | (refine And.intro ?_ ?_; · (first | exact rfl | (show (_ : Int) ≤ _; omega) | (show (_ : Int) < _; omega) | assumption | exact SqL.of upd_same | exact SqT.of upd_same | exact upd_same | exact Drew.at_ (by assumption) | exact at_of (j := 0) rfl rfl | exact at_of (j := 1) rfl rfl | exact at_of (j := 2) rfl rfl | exact at_of (j := 3) rfl rfl | exact .inr (by assumption) | exact .inl (by assumption) | exact .ty _ | exact dp_ty (by assumption) | exact kit_strD _ | exact kit_tupD _ | exact kit_intD _ | exact kit_boolD _ | exact ⟨_, rfl⟩ | decide | omega | exact (show 0 ≤ sizeLine by decide) | exact (show 1 ≤ sizeLine by decide) | exact (show 2 ≤ sizeLine by decide) | exact (show 3 ≤ sizeLine by decide) | exact (show 4 ≤ sizeLine by decide) | exact (show 5 ≤ sizeLine by decide) | exact (show 6 ≤ sizeLine by decide) | decide +kernel)) | apply Exists.intro | refine iteT ?_ | refine iteF ?_)
      refine ifs2 (fun hB => ?_) (fun hB => ?_)
      · have hm := mkB hB ns
        repeat (first | (refine And.intro ?_ ?_; · (first | exact rfl | (show (_ : Int) ≤ _; omega) | (show (_ : Int) < _; omega) | assumption | exact SqL.of upd_same | exact SqT.of upd_same | exact upd_same | exact Drew.at_ (by assumption) | exact at_of (j := 0) rfl rfl | exact at_of (j := 1) rfl rfl | exact at_of (j := 2) rfl rfl | exact at_of (j := 3) rfl rfl | exact .inr (by assumption) | exact .inl (by assumption) | exact .ty _ | exact dp_ty (by assumption) | exact kit_strD _ | exact kit_tupD _ | exact kit_intD _ | exact kit_boolD _ | exact ⟨_, rfl⟩ | decide | omega | exact (show 0 ≤ sizeLine by decide) | exact (show 1 ≤ sizeLine by decide) | exact (show 2 ≤ sizeLine by decide) | exact (show 3 ≤ sizeLine by decide) | exact (show 4 ≤ sizeLine by decide) | exact (show 5 ≤ sizeLine by decide) | exact (show 6 ≤ sizeLine by decide) | decide +kernel)) | apply Exists.intro | refine iteT ?_ | refine iteF ?_)
        refine ifd (fun c1 => ?_) (fun c1 => ?_)
        · obtain ⟨m, c, rfl⟩ := two_of c1
          repeat (first | (refine And.intro ?_ ?_; · (first | exact rfl | (show (_ : Int) ≤ _; omega) | (show (_ : Int) < _; omega) | assumption | exact SqL.of upd_same | exact SqT.of upd_same | exact upd_same | exact Drew.at_ (by assumption) | exact at_of (j := 0) rfl rfl | exact at_of (j := 1) rfl rfl | exact at_of (j := 2) rfl rfl | exact at_of (j := 3) rfl rfl | exact .inr (by assumption) | exact .inl (by assumption) | exact .ty _ | exact dp_ty (by assumption) | exact kit_strD _ | exact kit_tupD _ | exact kit_intD _ | exact kit_boolD _ | exact ⟨_, rfl⟩ | decide | omega | exact (show 0 ≤ sizeLine by decide) | exact (show 1 ≤ sizeLine by decide) | exact (show 2 ≤ sizeLine by decide) | exact (show 3 ≤ sizeLine by decide) | exact (show 4 ≤ sizeLine by decide) | exact (show 5 ≤ sizeLine by decide) | exact (show 6 ≤ sizeLine by decide) | decide +kernel)) | apply Exists.intro | refine iteT ?_ | refine iteF ?_)
          refine ifd (fun c2 => ?_) (fun c2 => ?_)
          · repeat (first | (refine And.intro ?_ ?_; · (first | exact rfl | (show (_ : Int) ≤ _; omega) | (show (_ : Int) < _; omega) | assumption | exact SqL.of upd_same | exact SqT.of upd_same | exact upd_same | exact Drew.at_ (by assumption) | exact at_of (j := 0) rfl rfl | exact at_of (j := 1) rfl rfl | exact at_of (j := 2) rfl rfl | exact at_of (j := 3) rfl rfl | exact .inr (by assumption) | exact .inl (by assumption) | exact .ty _ | exact dp_ty (by assumption) | exact kit_strD _ | exact kit_tupD _ | exact kit_intD _ | exact kit_boolD _ | exact ⟨_, rfl⟩ | decide | omega | exact (show 0 ≤ sizeLine by decide) | exact (show 1 ≤ sizeLine by decide) | exact (show 2 ≤ sizeLine by decide) | exact (show 3 ≤ sizeLine by decide) | exact (show 4 ≤ sizeLine by decide) | exact (show 5 ≤ sizeLine by decide) | exact (show 6 ≤ sizeLine by decide) | decide +kernel)) | apply Exists.intro | refine iteT ?_ | refine iteF ?_)
            refine ifd (fun c3 => ?_) (fun c3 => ?_)
            · repeat (first | (refine And.intro ?_ ?_; · (first | exact rfl | (show (_ : Int) ≤ _; omega) | (show (_ : Int) < _; omega) | assumption | exact SqL.of upd_same | exact SqT.of upd_same | exact upd_same | exact Drew.at_ (by assumption) | exact at_of (j := 0) rfl rfl | exact at_of (j := 1) rfl rfl | exact at_of (j := 2) rfl rfl | exact at_of (j := 3) rfl rfl | exact .inr (by assumption) | exact .inl (by assumption) | exact .ty _ | exact dp_ty (by assumption) | exact kit_strD _ | exact kit_tupD _ | exact kit_intD _ | exact kit_boolD _ | exact ⟨_, rfl⟩ | decide | omega | exact (show 0 ≤ sizeLine by decide) | exact (show 1 ≤ sizeLine by decide) | exact (show 2 ≤ sizeLine by decide) | exact (show 3 ≤ sizeLine by decide) | exact (show 4 ≤ sizeLine by decide) | exact (show 5 ≤ sizeLine by decide) | exact (show 6 ≤ sizeLine by decide) | decide +kernel)) | apply Exists.intro | refine iteT ?_ | refine iteF ?_)
              refine ifd (fun c4 => ?_) (fun c4 => ?_)
              · repeat (first | (refine And.intro ?_ ?_; · (first | exact rfl | (show (_ : Int) ≤ _; omega) | (show (_ : Int) < _; omega) | assumption | exact SqL.of upd_same | exact SqT.of upd_same | exact upd_same | exact Drew.at_ (by assumption) | exact at_of (j := 0) rfl rfl | exact at_of (j := 1) rfl rfl | exact at_of (j := 2) rfl rfl | exact at_of (j := 3) rfl rfl | exact .inr (by assumption) | exact .inl (by assumption) | exact .ty _ | exact dp_ty (by assumption) | exact kit_strD _ | exact kit_tupD _ | exact kit_intD _ | exact kit_boolD _ | exact ⟨_, rfl⟩ | decide | omega | exact (show 0 ≤ sizeLine by decide) | exact (show 1 ≤ sizeLine by decide) | exact (show 2 ≤ sizeLine by decide) | exact (show 3 ≤ sizeLine by decide) | exact (show 4 ≤ sizeLine by decide) | exact (show 5 ≤ sizeLine by decide) | exact (show 6 ≤ sizeLine by decide) | decide +kernel)) | apply Exists.intro | refine iteT ?_ | refine iteF ?_)
                exact ⟨⟨fun z => hm.mpr ⟨m, c, rfl, c2, c3, c4, of_decide_eq_true z⟩, fun z => by
                  obtain ⟨m', d, e, z1, z2, z3, z4⟩ := hm.mp z
                  cases e
                  exact decide_eq_true z4⟩, rfl⟩
              · repeat (first | (refine And.intro ?_ ?_; · (first | exact rfl | (show (_ : Int) ≤ _; omega) | (show (_ : Int) < _; omega) | assumption | exact SqL.of upd_same | exact SqT.of upd_same | exact upd_same | exact Drew.at_ (by assumption) | exact at_of (j := 0) rfl rfl | exact at_of (j := 1) rfl rfl | exact at_of (j := 2) rfl rfl | exact at_of (j := 3) rfl rfl | exact .inr (by assumption) | exact .inl (by assumption) | exact .ty _ | exact dp_ty (by assumption) | exact kit_strD _ | exact kit_tupD _ | exact kit_intD _ | exact kit_boolD _ | exact ⟨_, rfl⟩ | decide | omega | exact (show 0 ≤ sizeLine by decide) | exact (show 1 ≤ sizeLine by decide) | exact (show 2 ≤ sizeLine by decide) | exact (show 3 ≤ sizeLine by decide) | exact (show 4 ≤ sizeLine by decide) | exact (show 5 ≤ sizeLine by decide) | exact (show 6 ≤ sizeLine by decide) | decide +kernel)) | apply Exists.intro | refine iteT ?_ | refine iteF ?_)
                exact ⟨nb fun z => by
                  obtain ⟨m', d, e, z1, z2, z3, z4⟩ := hm.mp z
                  cases e
                  exact c4 z3, rfl⟩
            · repeat (first | (refine And.intro ?_ ?_; · (first | exact rfl | (show (_ : Int) ≤ _; omega) | (show (_ : Int) < _; omega) | assumption | exact SqL.of upd_same | exact SqT.of upd_same | exact upd_same | exact Drew.at_ (by assumption) | exact at_of (j := 0) rfl rfl | exact at_of (j := 1) rfl rfl | exact at_of (j := 2) rfl rfl | exact at_of (j := 3) rfl rfl | exact .inr (by assumption) | exact .inl (by assumption) | exact .ty _ | exact dp_ty (by assumption) | exact kit_strD _ | exact kit_tupD _ | exact kit_intD _ | exact kit_boolD _ | exact ⟨_, rfl⟩ | decide | omega | exact (show 0 ≤ sizeLine by decide) | exact (show 1 ≤ sizeLine by decide) | exact (show 2 ≤ sizeLine by decide) | exact (show 3 ≤ sizeLine by decide) | exact (show 4 ≤ sizeLine by decide) | exact (show 5 ≤ sizeLine by decide) | exact (show 6 ≤ sizeLine by decide) | decide +kernel)) | apply Exists.intro | refine iteT ?_ | refine iteF ?_)
              exact ⟨nb fun z => by
                obtain ⟨m', d, e, z1, z2, z3, z4⟩ := hm.mp z
                cases e
                exact c3 z2, rfl⟩
          · repeat (first | (refine And.intro ?_ ?_; · (first | exact rfl | (show (_ : Int) ≤ _; omega) | (show (_ : Int) < _; omega) | assumption | exact SqL.of upd_same | exact SqT.of upd_same | exact upd_same | exact Drew.at_ (by assumption) | exact at_of (j := 0) rfl rfl | exact at_of (j := 1) rfl rfl | exact at_of (j := 2) rfl rfl | exact at_of (j := 3) rfl rfl | exact .inr (by assumption) | exact .inl (by assumption) | exact .ty _ | exact dp_ty (by assumption) | exact kit_strD _ | exact kit_tupD _ | exact kit_intD _ | exact kit_boolD _ | exact ⟨_, rfl⟩ | decide | omega | exact (show 0 ≤ sizeLine by decide) | exact (show 1 ≤ sizeLine by decide) | exact (show 2 ≤ sizeLine by decide) | exact (show 3 ≤ sizeLine by decide) | exact (show 4 ≤ sizeLine by decide) | exact (show 5 ≤ sizeLine by decide) | exact (show 6 ≤ sizeLine by decide) | decide +kernel)) | apply Exists.intro | refine iteT ?_ | refine iteF ?_)
            exact ⟨nb fun z => by
              obtain ⟨m', d, e, z1, z2, z3, z4⟩ := hm.mp z
              cases e
              exact c2 z1, rfl⟩
        · repeat (first | (refine And.intro ?_ ?_; · (first | exact rfl | (show (_ : Int) ≤ _; omega) | (show (_ : Int) < _; omega) | assumption | exact SqL.of upd_same | exact SqT.of upd_same | exact upd_same | exact Drew.at_ (by assumption) | exact at_of (j := 0) rfl rfl | exact at_of (j := 1) rfl rfl | exact at_of (j := 2) rfl rfl | exact at_of (j := 3) rfl rfl | exact .inr (by assumption) | exact .inl (by assumption) | exact .ty _ | exact dp_ty (by assumption) | exact kit_strD _ | exact kit_tupD _ | exact kit_intD _ | exact kit_boolD _ | exact ⟨_, rfl⟩ | decide | omega | exact (show 0 ≤ sizeLine by decide) | exact (show 1 ≤ sizeLine by decide) | exact (show 2 ≤ sizeLine by decide) | exact (show 3 ≤ sizeLine by decide) | exact (show 4 ≤ sizeLine by decide) | exact (show 5 ≤ sizeLine by decide) | exact (show 6 ≤ sizeLine by decide) | decide +kernel)) | apply Exists.intro | refine iteT ?_ | refine iteF ?_)
          exact ⟨nb fun z => by
            obtain ⟨m', d, e, z1, z2, z3, z4⟩ := hm.mp z
            rw [e] at c1
            exact c1 rfl, rfl⟩
      repeat (first | (refine And.intro ?_ ?_; · (first | exact rfl | (show (_ : Int) ≤ _; omega) | (show (_ : Int) < _; omega) | assumption | exact SqL.of upd_same | exact SqT.of upd_same | exact upd_same | exact Drew.at_ (by assumption) | exact at_of (j := 0) rfl rfl | exact at_of (j := 1) rfl rfl | exact at_of (j := 2) rfl rfl | exact at_of (j := 3) rfl rfl | exact .inr (by assumption) | exact .inl (by assumption) | exact .ty _ | exact dp_ty (by assumption) | exact kit_strD _ | exact kit_tupD _ | exact kit_intD _ | exact kit_boolD _ | exact ⟨_, rfl⟩ | decide | omega | exact (show 0 ≤ sizeLine by decide) | exact (show 1 ≤ sizeLine by decide) | exact (show 2 ≤ sizeLine by decide) | exact (show 3 ≤ sizeLine by decide) | exact (show 4 ≤ sizeLine by decide) | exact (show 5 ≤ sizeLine by decide) | exact (show 6 ≤ sizeLine by decide) | decide +kernel)) | apply Exists.intro | refine iteT ?_ | refine iteF ?_)
      refine ifeq (fun hC => ?_) (fun hC => ?_)
      · subst hC
        have hm := mkC ns
        repeat (first | (refine And.intro ?_ ?_; · (first | exact rfl | (show (_ : Int) ≤ _; omega) | (show (_ : Int) < _; omega) | assumption | exact SqL.of upd_same | exact SqT.of upd_same | exact upd_same | exact Drew.at_ (by assumption) | exact at_of (j := 0) rfl rfl | exact at_of (j := 1) rfl rfl | exact at_of (j := 2) rfl rfl | exact at_of (j := 3) rfl rfl | exact .inr (by assumption) | exact .inl (by assumption) | exact .ty _ | exact dp_ty (by assumption) | exact kit_strD _ | exact kit_tupD _ | exact kit_intD _ | exact kit_boolD _ | exact ⟨_, rfl⟩ | decide | omega | exact (show 0 ≤ sizeLine by decide) | exact (show 1 ≤ sizeLine by decide) | exact (show 2 ≤ sizeLine by decide) | exact (show 3 ≤ sizeLine by decide) | exact (show 4 ≤ sizeLine by decide) | exact (show 5 ≤ sizeLine by decide) | exact (show 6 ≤ sizeLine by decide) | decide +kernel)) | apply Exists.intro | refine iteT ?_ | refine iteF ?_)
        refine ifd (fun c1 => ?_) (fun c1 => ?_)
        · obtain ⟨m, c, rfl⟩ := two_of c1
          repeat (first | (refine And.intro ?_ ?_; · (first | exact rfl | (show (_ : Int) ≤ _; omega) | (show (_ : Int) < _; omega) | assumption | exact SqL.of upd_same | exact SqT.of upd_same | exact upd_same | exact Drew.at_ (by assumption) | exact at_of (j := 0) rfl rfl | exact at_of (j := 1) rfl rfl | exact at_of (j := 2) rfl rfl | exact at_of (j := 3) rfl rfl | exact .inr (by assumption) | exact .inl (by assumption) | exact .ty _ | exact dp_ty (by assumption) | exact kit_strD _ | exact kit_tupD _ | exact kit_intD _ | exact kit_boolD _ | exact ⟨_, rfl⟩ | decide | omega | exact (show 0 ≤ sizeLine by decide) | exact (show 1 ≤ sizeLine by decide) | exact (show 2 ≤ sizeLine by decide) | exact (show 3 ≤ sizeLine by decide) | exact (show 4 ≤ sizeLine by decide) | exact (show 5 ≤ sizeLine by decide) | exact (show 6 ≤ sizeLine by decide) | decide +kernel)) | apply Exists.intro | refine iteT ?_ | refine iteF ?_)
          refine ifd (fun c2 => ?_) (fun c2 => ?_)
          · repeat (first | (refine And.intro ?_ ?_; · (first | exact rfl | (show (_ : Int) ≤ _; omega) | (show (_ : Int) < _; omega) | assumption | exact SqL.of upd_same | exact SqT.of upd_same | exact upd_same | exact Drew.at_ (by assumption) | exact at_of (j := 0) rfl rfl | exact at_of (j := 1) rfl rfl | exact at_of (j := 2) rfl rfl | exact at_of (j := 3) rfl rfl | exact .inr (by assumption) | exact .inl (by assumption) | exact .ty _ | exact dp_ty (by assumption) | exact kit_strD _ | exact kit_tupD _ | exact kit_intD _ | exact kit_boolD _ | exact ⟨_, rfl⟩ | decide | omega | exact (show 0 ≤ sizeLine by decide) | exact (show 1 ≤ sizeLine by decide) | exact (show 2 ≤ sizeLine by decide) | exact (show 3 ≤ sizeLine by decide) | exact (show 4 ≤ sizeLine by decide) | exact (show 5 ≤ sizeLine by decide) | exact (show 6 ≤ sizeLine by decide) | decide +kernel)) | apply Exists.intro | refine iteT ?_ | refine iteF ?_)
            refine ifd (fun c3 => ?_) (fun c3 => ?_)
            · repeat (first | (refine And.intro ?_ ?_; · (first | exact rfl | (show (_ : Int) ≤ _; omega) | (show (_ : Int) < _; omega) | assumption | exact SqL.of upd_same | exact SqT.of upd_same | exact upd_same | exact Drew.at_ (by assumption) | exact at_of (j := 0) rfl rfl | exact at_of (j := 1) rfl rfl | exact at_of (j := 2) rfl rfl | exact at_of (j := 3) rfl rfl | exact .inr (by assumption) | exact .inl (by assumption) | exact .ty _ | exact dp_ty (by assumption) | exact kit_strD _ | exact kit_tupD _ | exact kit_intD _ | exact kit_boolD _ | exact ⟨_, rfl⟩ | decide | omega | exact (show 0 ≤ sizeLine by decide) | exact (show 1 ≤ sizeLine by decide) | exact (show 2 ≤ sizeLine by decide) | exact (show 3 ≤ sizeLine by decide) | exact (show 4 ≤ sizeLine by decide) | exact (show 5 ≤ sizeLine by decide) | exact (show 6 ≤ sizeLine by decide) | decide +kernel)) | apply Exists.intro | refine iteT ?_ | refine iteF ?_)
              refine ifd (fun c4 => ?_) (fun c4 => ?_)
              · repeat (first | (refine And.intro ?_ ?_; · (first | exact rfl | (show (_ : Int) ≤ _; omega) | (show (_ : Int) < _; omega) | assumption | exact SqL.of upd_same | exact SqT.of upd_same | exact upd_same | exact Drew.at_ (by assumption) | exact at_of (j := 0) rfl rfl | exact at_of (j := 1) rfl rfl | exact at_of (j := 2) rfl rfl | exact at_of (j := 3) rfl rfl | exact .inr (by assumption) | exact .inl (by assumption) | exact .ty _ | exact dp_ty (by assumption) | exact kit_strD _ | exact kit_tupD _ | exact kit_intD _ | exact kit_boolD _ | exact ⟨_, rfl⟩ | decide | omega | exact (show 0 ≤ sizeLine by decide) | exact (show 1 ≤ sizeLine by decide) | exact (show 2 ≤ sizeLine by decide) | exact (show 3 ≤ sizeLine by decide) | exact (show 4 ≤ sizeLine by decide) | exact (show 5 ≤ sizeLine by decide) | exact (show 6 ≤ sizeLine by decide) | decide +kernel)) | apply Exists.intro | refine iteT ?_ | refine iteF ?_)
                exact ⟨⟨fun z => hm.mpr ⟨m, c, rfl, c2, c3, c4, of_decide_eq_true z⟩, fun z => by
                  obtain ⟨m', d, e, z1, z2, z3, z4⟩ := hm.mp z
                  cases e
                  exact decide_eq_true z4⟩, rfl⟩
              · repeat (first | (refine And.intro ?_ ?_; · (first | exact rfl | (show (_ : Int) ≤ _; omega) | (show (_ : Int) < _; omega) | assumption | exact SqL.of upd_same | exact SqT.of upd_same | exact upd_same | exact Drew.at_ (by assumption) | exact at_of (j := 0) rfl rfl | exact at_of (j := 1) rfl rfl | exact at_of (j := 2) rfl rfl | exact at_of (j := 3) rfl rfl | exact .inr (by assumption) | exact .inl (by assumption) | exact .ty _ | exact dp_ty (by assumption) | exact kit_strD _ | exact kit_tupD _ | exact kit_intD _ | exact kit_boolD _ | exact ⟨_, rfl⟩ | decide | omega | exact (show 0 ≤ sizeLine by decide) | exact (show 1 ≤ sizeLine by decide) | exact (show 2 ≤ sizeLine by decide) | exact (show 3 ≤ sizeLine by decide) | exact (show 4 ≤ sizeLine by decide) | exact (show 5 ≤ sizeLine by decide) | exact (show 6 ≤ sizeLine by decide) | decide +kernel)) | apply Exists.intro | refine iteT ?_ | refine iteF ?_)
                exact ⟨nb fun z => by
                  obtain ⟨m', d, e, z1, z2, z3, z4⟩ := hm.mp z
                  cases e
                  exact c4 z3, rfl⟩
            · repeat (first | (refine And.intro ?_ ?_; · (first | exact rfl | (show (_ : Int) ≤ _; omega) | (show (_ : Int) < _; omega) | assumption | exact SqL.of upd_same | exact SqT.of upd_same | exact upd_same | exact Drew.at_ (by assumption) | exact at_of (j := 0) rfl rfl | exact at_of (j := 1) rfl rfl | exact at_of (j := 2) rfl rfl | exact at_of (j := 3) rfl rfl | exact .inr (by assumption) | exact .inl (by assumption) | exact .ty _ | exact dp_ty (by assumption) | exact kit_strD _ | exact kit_tupD _ | exact kit_intD _ | exact kit_boolD _ | exact ⟨_, rfl⟩ | decide | omega | exact (show 0 ≤ sizeLine by decide) | exact (show 1 ≤ sizeLine by decide) | exact (show 2 ≤ sizeLine by decide) | exact (show 3 ≤ sizeLine by decide) | exact (show 4 ≤ sizeLine by decide) | exact (show 5 ≤ sizeLine by decide) | exact (show 6 ≤ sizeLine by decide) | decide +kernel)) | apply Exists.intro | refine iteT ?_ | refine iteF ?_)
              exact ⟨nb fun z => by
                obtain ⟨m', d, e, z1, z2, z3, z4⟩ := hm.mp z
                cases e
                exact c3 z2, rfl⟩
          · repeat (first | (refine And.intro ?_ ?_; · (first | exact rfl | (show (_ : Int) ≤ _; omega) | (show (_ : Int) < _; omega) | assumption | exact SqL.of upd_same | exact SqT.of upd_same | exact upd_same | exact Drew.at_ (by assumption) | exact at_of (j := 0) rfl rfl | exact at_of (j := 1) rfl rfl | exact at_of (j := 2) rfl rfl | exact at_of (j := 3) rfl rfl | exact .inr (by assumption) | exact .inl (by assumption) | exact .ty _ | exact dp_ty (by assumption) | exact kit_strD _ | exact kit_tupD _ | exact kit_intD _ | exact kit_boolD _ | exact ⟨_, rfl⟩ | decide | omega | exact (show 0 ≤ sizeLine by decide) | exact (show 1 ≤ sizeLine by decide) | exact (show 2 ≤ sizeLine by decide) | exact (show 3 ≤ sizeLine by decide) | exact (show 4 ≤ sizeLine by decide) | exact (show 5 ≤ sizeLine by decide) | exact (show 6 ≤ sizeLine by decide) | decide +kernel)) | apply Exists.intro | refine iteT ?_ | refine iteF ?_)
            exact ⟨nb fun z => by
              obtain ⟨m', d, e, z1, z2, z3, z4⟩ := hm.mp z
              cases e
              exact c2 z1, rfl⟩
        · repeat (first | (refine And.intro ?_ ?_; · (first | exact rfl | (show (_ : Int) ≤ _; omega) | (show (_ : Int) < _; omega) | assumption | exact SqL.of upd_same | exact SqT.of upd_same | exact upd_same | exact Drew.at_ (by assumption) | exact at_of (j := 0) rfl rfl | exact at_of (j := 1) rfl rfl | exact at_of (j := 2) rfl rfl | exact at_of (j := 3) rfl rfl | exact .inr (by assumption) | exact .inl (by assumption) | exact .ty _ | exact dp_ty (by assumption) | exact kit_strD _ | exact kit_tupD _ | exact kit_intD _ | exact kit_boolD _ | exact ⟨_, rfl⟩ | decide | omega | exact (show 0 ≤ sizeLine by decide) | exact (show 1 ≤ sizeLine by decide) | exact (show 2 ≤ sizeLine by decide) | exact (show 3 ≤ sizeLine by decide) | exact (show 4 ≤ sizeLine by decide) | exact (show 5 ≤ sizeLine by decide) | exact (show 6 ≤ sizeLine by decide) | decide +kernel)) | apply Exists.intro | refine iteT ?_ | refine iteF ?_)
          exact ⟨nb fun z => by
            obtain ⟨m', d, e, z1, z2, z3, z4⟩ := hm.mp z
            rw [e] at c1
            exact c1 rfl, rfl⟩
      repeat (first | (refine And.intro ?_ ?_; · (first | exact rfl | (show (_ : Int) ≤ _; omega) | (show (_ : Int) < _; omega) | assumption | exact SqL.of upd_same | exact SqT.of upd_same | exact upd_same | exact Drew.at_ (by assumption) | exact at_of (j := 0) rfl rfl | exact at_of (j := 1) rfl rfl | exact at_of (j := 2) rfl rfl | exact at_of (j := 3) rfl rfl | exact .inr (by assumption) | exact .inl (by assumption) | exact .ty _ | exact dp_ty (by assumption) | exact kit_strD _ | exact kit_tupD _ | exact kit_intD _ | exact kit_boolD _ | exact ⟨_, rfl⟩ | decide | omega | exact (show 0 ≤ sizeLine by decide) | exact (show 1 ≤ sizeLine by decide) | exact (show 2 ≤ sizeLine by decide) | exact (show 3 ≤ sizeLine by decide) | exact (show 4 ≤ sizeLine by decide) | exact (show 5 ≤ sizeLine by decide) | exact (show 6 ≤ sizeLine by decide) | decide +kernel)) | apply Exists.intro | refine iteT ?_ | refine iteF ?_)
      refine ifeq (fun hE => ?_) (fun hE => ?_)
      · subst hE
        have hm := mkD ns
        repeat (first | (refine And.intro ?_ ?_; · (first | exact rfl | (show (_ : Int) ≤ _; omega) | (show (_ : Int) < _; omega) | assumption | exact SqL.of upd_same | exact SqT.of upd_same | exact upd_same | exact Drew.at_ (by assumption) | exact at_of (j := 0) rfl rfl | exact at_of (j := 1) rfl rfl | exact at_of (j := 2) rfl rfl | exact at_of (j := 3) rfl rfl | exact .inr (by assumption) | exact .inl (by assumption) | exact .ty _ | exact dp_ty (by assumption) | exact kit_strD _ | exact kit_tupD _ | exact kit_intD _ | exact kit_boolD _ | exact ⟨_, rfl⟩ | decide | omega | exact (show 0 ≤ sizeLine by decide) | exact (show 1 ≤ sizeLine by decide) | exact (show 2 ≤ sizeLine by decide) | exact (show 3 ≤ sizeLine by decide) | exact (show 4 ≤ sizeLine by decide) | exact (show 5 ≤ sizeLine by decide) | exact (show 6 ≤ sizeLine by decide) | decide +kernel)) | apply Exists.intro | refine iteT ?_ | refine iteF ?_)
        refine ifd (fun c1 => ?_) (fun c1 => ?_)
        · obtain ⟨c, rfl⟩ := one_of c1
          repeat (first | (refine And.intro ?_ ?_; · (first | exact rfl | (show (_ : Int) ≤ _; omega) | (show (_ : Int) < _; omega) | assumption | exact SqL.of upd_same | exact SqT.of upd_same | exact upd_same | exact Drew.at_ (by assumption) | exact at_of (j := 0) rfl rfl | exact at_of (j := 1) rfl rfl | exact at_of (j := 2) rfl rfl | exact at_of (j := 3) rfl rfl | exact .inr (by assumption) | exact .inl (by assumption) | exact .ty _ | exact dp_ty (by assumption) | exact kit_strD _ | exact kit_tupD _ | exact kit_intD _ | exact kit_boolD _ | exact ⟨_, rfl⟩ | decide | omega | exact (show 0 ≤ sizeLine by decide) | exact (show 1 ≤ sizeLine by decide) | exact (show 2 ≤ sizeLine by decide) | exact (show 3 ≤ sizeLine by decide) | exact (show 4 ≤ sizeLine by decide) | exact (show 5 ≤ sizeLine by decide) | exact (show 6 ≤ sizeLine by decide) | decide +kernel)) | apply Exists.intro | refine iteT ?_ | refine iteF ?_)
          refine ifd (fun c2 => ?_) (fun c2 => ?_)
          · repeat (first | (refine And.intro ?_ ?_; · (first | exact rfl | (show (_ : Int) ≤ _; omega) | (show (_ : Int) < _; omega) | assumption | exact SqL.of upd_same | exact SqT.of upd_same | exact upd_same | exact Drew.at_ (by assumption) | exact at_of (j := 0) rfl rfl | exact at_of (j := 1) rfl rfl | exact at_of (j := 2) rfl rfl | exact at_of (j := 3) rfl rfl | exact .inr (by assumption) | exact .inl (by assumption) | exact .ty _ | exact dp_ty (by assumption) | exact kit_strD _ | exact kit_tupD _ | exact kit_intD _ | exact kit_boolD _ | exact ⟨_, rfl⟩ | decide | omega | exact (show 0 ≤ sizeLine by decide) | exact (show 1 ≤ sizeLine by decide) | exact (show 2 ≤ sizeLine by decide) | exact (show 3 ≤ sizeLine by decide) | exact (show 4 ≤ sizeLine by decide) | exact (show 5 ≤ sizeLine by decide) | exact (show 6 ≤ sizeLine by decide) | decide +kernel)) | apply Exists.intro | refine iteT ?_ | refine iteF ?_)
            exact ⟨⟨fun z => hm.mpr ⟨c, rfl, c2, of_decide_eq_true z⟩, fun z => by
              obtain ⟨d, e, z1, z2⟩ := hm.mp z
              cases e
              exact decide_eq_true z2⟩, rfl⟩
          · repeat (first | (refine And.intro ?_ ?_; · (first | exact rfl | (show (_ : Int) ≤ _; omega) | (show (_ : Int) < _; omega) | assumption | exact SqL.of upd_same | exact SqT.of upd_same | exact upd_same | exact Drew.at_ (by assumption) | exact at_of (j := 0) rfl rfl | exact at_of (j := 1) rfl rfl | exact at_of (j := 2) rfl rfl | exact at_of (j := 3) rfl rfl | exact .inr (by assumption) | exact .inl (by assumption) | exact .ty _ | exact dp_ty (by assumption) | exact kit_strD _ | exact kit_tupD _ | exact kit_intD _ | exact kit_boolD _ | exact ⟨_, rfl⟩ | decide | omega | exact (show 0 ≤ sizeLine by decide) | exact (show 1 ≤ sizeLine by decide) | exact (show 2 ≤ sizeLine by decide) | exact (show 3 ≤ sizeLine by decide) | exact (show 4 ≤ sizeLine by decide) | exact (show 5 ≤ sizeLine by decide) | exact (show 6 ≤ sizeLine by decide) | decide +kernel)) | apply Exists.intro | refine iteT ?_ | refine iteF ?_)
            exact ⟨nb fun z => by
              obtain ⟨d, e, z1, z2⟩ := hm.mp z
              cases e
              exact c2 z1, rfl⟩
        · repeat (first | (refine And.intro ?_ ?_; · (first | exact rfl | (show (_ : Int) ≤ _; omega) | (show (_ : Int) < _; omega) | assumption | exact SqL.of upd_same | exact SqT.of upd_same | exact upd_same | exact Drew.at_ (by assumption) | exact at_of (j := 0) rfl rfl | exact at_of (j := 1) rfl rfl | exact at_of (j := 2) rfl rfl | exact at_of (j := 3) rfl rfl | exact .inr (by assumption) | exact .inl (by assumption) | exact .ty _ | exact dp_ty (by assumption) | exact kit_strD _ | exact kit_tupD _ | exact kit_intD _ | exact kit_boolD _ | exact ⟨_, rfl⟩ | decide | omega | exact (show 0 ≤ sizeLine by decide) | exact (show 1 ≤ sizeLine by decide) | exact (show 2 ≤ sizeLine by decide) | exact (show 3 ≤ sizeLine by decide) | exact (show 4 ≤ sizeLine by decide) | exact (show 5 ≤ sizeLine by decide) | exact (show 6 ≤ sizeLine by decide) | decide +kernel)) | apply Exists.intro | refine iteT ?_ | refine iteF ?_)
          exact ⟨nb fun z => by
            obtain ⟨d, e, z1, z2⟩ := hm.mp z
            rw [e] at c1
            exact c1 rfl, rfl⟩
      · repeat (first | (refine And.intro ?_ ?_; · (first | exact rfl | (show (_ : Int) ≤ _; omega) | (show (_ : Int) < _; omega) | assumption | exact SqL.of upd_same | exact SqT.of upd_same | exact upd_same | exact Drew.at_ (by assumption) | exact at_of (j := 0) rfl rfl | exact at_of (j := 1) rfl rfl | exact at_of (j := 2) rfl rfl | exact at_of (j := 3) rfl rfl | exact .inr (by assumption) | exact .inl (by assumption) | exact .ty _ | exact dp_ty (by assumption) | exact kit_strD _ | exact kit_tupD _ | exact kit_intD _ | exact kit_boolD _ | exact ⟨_, rfl⟩ | decide | omega | exact (show 0 ≤ sizeLine by decide) | exact (show 1 ≤ sizeLine by decide) | exact (show 2 ≤ sizeLine by decide) | exact (show 3 ≤ sizeLine by decide) | exact (show 4 ≤ sizeLine by decide) | exact (show 5 ≤ sizeLine by decide) | exact (show 6 ≤ sizeLine by decide) | decide +kernel)) | apply Exists.intro | refine iteT ?_ | refine iteF ?_)
        refine ⟨nb fun z => ?_, rfl⟩
        rw [mkW_out (fun z => ?_)] at z
        · cases z
        · have z : kw ∈ [("plus" : Str), "told", "whole", "pieces", "cut", "coded", "filled"] := z
          simp only [List.mem_cons, List.not_mem_nil, or_false] at z
          rcases z with z | z | z | z | z | z | z
          · exact hA (.inl z)
          · exact hA (.inr (.inl z))
          · exact hA (.inr (.inr z))
          · exact hB (.inl z)
          · exact hB (.inr z)
          · exact hC z
          · exact hE z
    · rintro σ' H4 ⟨g, s4, hg, rfl⟩
      have hL4 := sqL_same s4 hL3
      have hD4 := sqL_same s4 hD3
      have s40 : Same H H4 := fun x o e => s4 _ _ (s3 _ _ e)
      cases g with
      | false =>
        repeat (first | (refine And.intro ?_ ?_; · (first | exact rfl | (show (_ : Int) ≤ _; omega) | (show (_ : Int) < _; omega) | assumption | exact SqL.of upd_same | exact SqT.of upd_same | exact upd_same | exact Drew.at_ (by assumption) | exact at_of (j := 0) rfl rfl | exact at_of (j := 1) rfl rfl | exact at_of (j := 2) rfl rfl | exact at_of (j := 3) rfl rfl | exact .inr (by assumption) | exact .inl (by assumption) | exact .ty _ | exact dp_ty (by assumption) | exact kit_strD _ | exact kit_tupD _ | exact kit_intD _ | exact kit_boolD _ | exact ⟨_, rfl⟩ | decide | omega | exact (show 0 ≤ sizeLine by decide) | exact (show 1 ≤ sizeLine by decide) | exact (show 2 ≤ sizeLine by decide) | exact (show 3 ≤ sizeLine by decide) | exact (show 4 ≤ sizeLine by decide) | exact (show 5 ≤ sizeLine by decide) | exact (show 6 ≤ sizeLine by decide) | decide +kernel)) | apply Exists.intro | refine iteT ?_ | refine iteF ?_)
        refine k _ _ s40 (.inl ⟨rfl, ?_⟩)
        rw [er]
        cases e : mkW kw ns with
        | none => rfl
        | some a =>
          rw [e] at hg
          exact absurd (hg.mpr rfl) (by decide)
      | true =>
        obtain ⟨a, ea⟩ := Option.isSome_iff_exists.mp (hg.mp rfl)
        repeat (first | (refine And.intro ?_ ?_; · (first | exact rfl | (show (_ : Int) ≤ _; omega) | (show (_ : Int) < _; omega) | assumption | exact SqL.of upd_same | exact SqT.of upd_same | exact upd_same | exact Drew.at_ (by assumption) | exact at_of (j := 0) rfl rfl | exact at_of (j := 1) rfl rfl | exact at_of (j := 2) rfl rfl | exact at_of (j := 3) rfl rfl | exact .inr (by assumption) | exact .inl (by assumption) | exact .ty _ | exact dp_ty (by assumption) | exact kit_strD _ | exact kit_tupD _ | exact kit_intD _ | exact kit_boolD _ | exact ⟨_, rfl⟩ | decide | omega | exact (show 0 ≤ sizeLine by decide) | exact (show 1 ≤ sizeLine by decide) | exact (show 2 ≤ sizeLine by decide) | exact (show 3 ≤ sizeLine by decide) | exact (show 4 ≤ sizeLine by decide) | exact (show 5 ≤ sizeLine by decide) | exact (show 6 ≤ sizeLine by decide) | decide +kernel)) | apply Exists.intro | refine iteT ?_ | refine iteF ?_)
        intro p1 hp1
        have s5 : Same H (upd H4 p1 (.lst [.str kw])) := fun x o e => up hp1 _ _ (s40 _ _ e)
        have hD5 := sqL_same (up (o := .lst [.str kw]) hp1) hD4
        have gp5 : upd H4 p1 (.lst [.str kw]) p1 = some (.lst [.str kw]) := upd_same
        have gd5 : upd H4 p1 (.lst [.str kw]) D = some (.lst (ns.map V.int)) := up hp1 _ _ (s4 _ _ hd)
        generalize upd H4 p1 (.lst [.str kw]) = H5 at *
        repeat (first | (refine And.intro ?_ ?_; · (first | exact rfl | (show (_ : Int) ≤ _; omega) | (show (_ : Int) < _; omega) | assumption | exact SqL.of upd_same | exact SqT.of upd_same | exact upd_same | exact Drew.at_ (by assumption) | exact at_of (j := 0) rfl rfl | exact at_of (j := 1) rfl rfl | exact at_of (j := 2) rfl rfl | exact at_of (j := 3) rfl rfl | exact .inr (by assumption) | exact .inl (by assumption) | exact .ty _ | exact dp_ty (by assumption) | exact kit_strD _ | exact kit_tupD _ | exact kit_intD _ | exact kit_boolD _ | exact ⟨_, rfl⟩ | decide | omega | exact (show 0 ≤ sizeLine by decide) | exact (show 1 ≤ sizeLine by decide) | exact (show 2 ≤ sizeLine by decide) | exact (show 3 ≤ sizeLine by decide) | exact (show 4 ≤ sizeLine by decide) | exact (show 5 ≤ sizeLine by decide) | exact (show 6 ≤ sizeLine by decide) | decide +kernel)) | apply Exists.intro | refine iteT ?_ | refine iteF ?_)
        refine ⟨?_, fun p2 hp2 => ?_⟩
        · rw [← (mkW_spec ea).2.1, List.length_map, nums_len, rng_rlen]
          have : rlen a.kind ≤ 2 := by unfold rlen; split <;> omega
          exact sz (by show 1 + _ ≤ 5000; omega)
        have s6 : Same H (upd H5 p2 (.lst ([.str kw] ++ ns.map V.int))) := fun x o e => up hp2 _ _ (s5 _ _ e)
        have hp6 : SqL K (upd H5 p2 (.lst ([.str kw] ++ ns.map V.int))) p2 ([.str kw] ++ ns.map V.int) := SqL.of upd_same
        generalize upd H5 p2 (.lst ([.str kw] ++ ns.map V.int)) = H6 at *
        repeat (first | (refine And.intro ?_ ?_; · (first | exact rfl | (show (_ : Int) ≤ _; omega) | (show (_ : Int) < _; omega) | assumption | exact SqL.of upd_same | exact SqT.of upd_same | exact upd_same | exact Drew.at_ (by assumption) | exact at_of (j := 0) rfl rfl | exact at_of (j := 1) rfl rfl | exact at_of (j := 2) rfl rfl | exact at_of (j := 3) rfl rfl | exact .inr (by assumption) | exact .inl (by assumption) | exact .ty _ | exact dp_ty (by assumption) | exact kit_strD _ | exact kit_tupD _ | exact kit_intD _ | exact kit_boolD _ | exact ⟨_, rfl⟩ | decide | omega | exact (show 0 ≤ sizeLine by decide) | exact (show 1 ≤ sizeLine by decide) | exact (show 2 ≤ sizeLine by decide) | exact (show 3 ≤ sizeLine by decide) | exact (show 4 ≤ sizeLine by decide) | exact (show 5 ≤ sizeLine by decide) | exact (show 6 ≤ sizeLine by decide) | decide +kernel)) | apply Exists.intro | refine iteT ?_ | refine iteF ?_)
        refine .inl ⟨hp6, fun p3 hp3 => ?_⟩
        refine k _ _ (fun x o e => up hp3 _ _ (s6 _ _ e)) (.inr ⟨p3, a, rfl, ?_, by rw [er]; exact ea⟩)
        obtain ⟨e1, e2, _⟩ := mkW_spec ea
        show upd H6 p3 _ p3 = some (.tup (.str a.kind :: a.nums.map V.int))
        rw [upd_same, e1, e2]
        rfl
end
/-! ### the law's own reader of a stack's text -/
theorem units65 {k : Nat} {A : Around} (r : Room k A) : A.units + 65 < cLine := by
  have := r.un
  omega
inductive TagRds (H : Hp) : List V → List Str → Prop where
  | nil : TagRds H [] []
  | cons {v : V} {vs : List V} {t : Str} {ts : List Str} (h : TagRd H v t) (r : TagRds H vs ts) : TagRds H (v :: vs) (t :: ts)
theorem TagRd.same {H H' : Hp} {v : V} {t : Str} (s : Same H H') (h : TagRd H v t) : TagRd H' v t := by
  rcases h with h | ⟨q, a, e, h, h2⟩
  · exact .inl h
  · exact .inr ⟨q, a, e, s _ _ h, h2⟩
theorem TagRds.same {H H' : Hp} {vs : List V} {ts : List Str} (s : Same H H') (h : TagRds H vs ts) : TagRds H' vs ts := by
  induction h with
  | nil => exact .nil
  | cons h _ ih => exact .cons (h.same s) ih
theorem TagRds.len {H : Hp} {vs : List V} {ts : List Str} (h : TagRds H vs ts) : vs.length = ts.length := by
  induction h with
  | nil => rfl
  | cons _ _ ih => exact congrArg (· + 1) ih
theorem TagRd.put {H : Hp} {D : Addr} {zs ys : List V} (g : H D = some (.lst zs)) {v : V} {t : Str} (h : TagRd H v t) : TagRd (L2.upd H D (.lst ys)) v t := by
  rcases h with h | ⟨q, a, e, h, h2⟩
  · exact .inl h
  · refine .inr ⟨q, a, e, ?_, h2⟩
    show upd H D _ q = _
    rw [upd_ne (fun z => by
      have h : H q = _ := h
      rw [z, g] at h
      cases h)]
    exact h
theorem TagRds.put {H : Hp} {D : Addr} {zs ys : List V} (g : H D = some (.lst zs)) {vs : List V} {ts : List Str} (h : TagRds H vs ts) : TagRds (L2.upd H D (.lst ys)) vs ts := by
  induction h with
  | nil => exact .nil
  | cons h _ ih => exact .cons (h.put g) ih
theorem TagRds.snoc {H : Hp} {vs : List V} {ts : List Str} {v : V} {t : Str} (h : TagRds H vs ts) (hv : TagRd H v t) : TagRds H (vs ++ [v]) (ts ++ [t]) := by
  induction h with
  | nil => exact .cons hv .nil
  | cons h _ ih => exact .cons h ih
def rdD (t : Str) : PyData := match rdW t with
  | some a => tagD a
  | none => .none
theorem TagRd.dp {K : PySem.W.Frag} {H : Hp} {v : V} {t : Str} (h : TagRd H v t) : Dp K H v (rdD t) := by
  unfold rdD
  rcases h with ⟨rfl, e⟩ | ⟨q, a, rfl, h, e⟩
  · rw [e]
    exact .non
  · rw [e]
    exact .tup (SqT.of h) (.cons (.str _) (dp_ints _))
theorem TagRds.dp {K : PySem.W.Frag} {H : Hp} {vs : List V} {ts : List Str} (h : TagRds H vs ts) : DpAll K H vs (ts.map rdD) := by
  induction h with
  | nil => exact .nil
  | cons h _ ih => exact .cons h.dp ih
theorem rdD_shp (t : Str) : Shp (rdD t) 1 := by
  unfold rdD
  split
  · exact tag_shp _
  · exact shp_none.mono (by decide)
theorem rdDs_shp (ts : List Str) : SeqAt.shaped (.list (ts.map rdD)) = true := (shp_list (k := 1) fun d hd => by
  obtain ⟨t, _, rfl⟩ := List.mem_map.mp hd
  exact rdD_shp t).shaped
/-- is None among them: then the text tells no stack -/
theorem rds_none : ∀ ts : List Str, ((ts.map rdD).any fun z => PyData.eqv z .none) = (ts.mapM rdW).isNone
  | [] => rfl
  | t :: ts => by
    rw [List.map_cons, List.any_cons, rds_none ts, List.mapM_cons]
    unfold rdD
    cases e : rdW t with
    | none => rfl
    | some a =>
      show (PyData.eqv (tagD a) .none || _) = _
      rw [show PyData.eqv (tagD a) .none = false from rfl, Bool.false_or]
      cases ts.mapM rdW <;> rfl
theorem TagRds.all {H : Hp} : ∀ {vs : List V} {ts : List Str} {ws : List Wr}, TagRds H vs ts → ts.mapM rdW = some ws → TagsAt H vs ws
  | _, _, ws, .nil, e => by
    cases e
    exact .nil
  | _, _, ws, .cons (t := t) (ts := ts) h r, e => by
    rw [List.mapM_cons] at e
    rcases h with ⟨rfl, e1⟩ | ⟨q, a, rfl, h, e1⟩
    · rw [e1] at e
      cases e
    · cases e2 : ts.mapM rdW with
      | none =>
        rw [e1, e2] at e
        cases e
      | some us =>
        rw [e1, e2] at e
        cases e
        exact .cons h (r.all e2)
/-- the first row: a word, a gap, a word -/
theorem head_two {r0 p q : Str} (h : Txt.split r0 " " = [p, q]) : Txt.partition r0 " " = (p, (" " : Str), q) := by
  have j := StrLaws.join_split r0 " "
  rw [h] at j
  have hf := StrLaws.split_free r0 32 p (by rw [show (⟨#[32]⟩ : Str) = " " from rfl, h]; exact .head _)
  have e : r0 = p ++ " " ++ q := by rw [← j]; rfl
  rw [e]
  exact TL.partition_app (s := 32) (S := []) rfl hf
theorem head_not {r0 : Str} (h : (Txt.split r0 " ").length ≠ 2) : numV (Txt.partition r0 " ").2.2 = -1 := by
  have j := StrLaws.join_split r0 " "
  match e : Txt.split r0 " ", h with
  | [], _ =>
    have := split_pos r0 " "
    rw [e] at this
    simp at this
  | [p], _ =>
    rw [e] at j
    have hf := StrLaws.split_free r0 32 p (by rw [show (⟨#[32]⟩ : Str) = " " from rfl, e]; exact .head _)
    have e2 : r0 = p := by rw [← j]; rfl
    rw [e2, TL.partition_none (s := 32) (S := []) rfl hf]
    rfl
  | [p, q], h => exact absurd rfl h
  | p :: q :: r :: rs, _ =>
    rw [e] at j
    have hf := StrLaws.split_free r0 32 p (by rw [show (⟨#[32]⟩ : Str) = " " from rfl, e]; exact .head _)
    have e2 : r0 = p ++ " " ++ (q ++ " " ++ Str.join " " (r :: rs)) := by
      rw [← j]
      refine TL.ext_tl ?_
      rw [TL.tl_append, TL.tl_append, TL.tl_append, TL.tl_append, TL.tl_join, TL.tl_join]
      show TL.tl p ++ (TL.tl " " ++ (TL.tl q ++ (TL.tl " " ++ TL.joinL (TL.tl " ") (TL.tl r :: rs.map TL.tl)))) = _
      simp [List.append_assoc]
    rw [e2, TL.partition_app (s := 32) (S := []) rfl hf]
    refine numV_not (c := 32) ?_ rfl
    show 32 ∈ TL.tl (q ++ " " ++ Str.join " " (r :: rs))
    rw [TL.tl_append, TL.tl_append]
    refine List.mem_append_left _ (List.mem_append_right _ ?_)
    exact .head _
def PileRd (H0 H : Hp) (v : V) (t : Str) : Prop := (v = .non ∧ rdS t = none) ∨ ∃ q l xs b ws, v = .ref q ∧ H q = some (.tup [.int b, .ref l]) ∧ H l = some (.lst xs) ∧ H0 l = none ∧ TagsAt H xs ws ∧ rdS t = some (b, ws) ∧ (∀ a ∈ ws, a.ok) ∧ 2 ≤ b ∧ b ≤ 256
def spPileIn : Sp := fun vs H Q _ => ∃ z, vs = [.str z] ∧ z.length ≤ 640 ∧ ∀ v H', Same H H' → PileRd H H' v z → Q v H'
section
variable {P : Program} {w : World} {K : PySem.W.Frag} {mg : Str → Option Value} {base : Heap}
theorem ok_L_pile_in (T : Tx w K mg) : Prom P w K mg base CX0 3 "_law_pile_in" s_L_pile_in ["_law_lines_here_here"] spPileIn := by
  refine Prom.of T.d_L_pile_in sc_L_pile_in (fun vs H Q E h => ?_) (fun _ _ _ _ _ _ us hl => match us, hl with | [_], _ => rfl) (fun f cdv A outer s H vs Q E hr h => ?_)
  · obtain ⟨z, rfl, _⟩ := h
    rfl
  · obtain ⟨z, rfl, hz, k⟩ := h
    refine ⟨_, (pss_cons (ps_set (i := 1) sc_L_pile_in.nd rfl (Or.inl rfl) (pe_split (pv 0) pe_str))
      (pss_cons (ps_set (i := 2) sc_L_pile_in.nd rfl (Or.inl rfl) (pe_split (pe_ix ix_list (pv 1) pe_int (fun _ _ => rfl)) pe_str))
      (pss_cons (ps_if (PW.pt (pw_or (pt_cmp (pc_neI (pe_callB call_len_seq (by rfl) T.b_len (by decide +kernel) (pa_cons (pv 2) pa_nil)) pe_int)) (pw_or (pt_cmpR op_ne (pe_ix ix_list (pv 2) pe_int (fun _ _ => rfl)) pe_str (nomark _)) (pw_or (pt_not (pt_chain op_le op_le pe_int (pe_callP (ok_L_number_in T) (hr.mono (by decide)) (by rfl) pass0 (pa_cons (pe_ix ix_list (pv 2) pe_int (fun _ _ => rfl)) pa_nil)) pe_int)) (pw_or1 (pt_cmp (pc_gt (pe_callB call_len_seq (by rfl) T.b_len (by decide +kernel) (pa_cons (pv 1) pa_nil)) pe_int))))))) (pss_one (ps_ret pe_non)) pss_nil)
      (pss_cons (ps_setLc (i := 3) (own := [("_law_line", 4)]) (g := (gName 4)) (tt := tYes) (by rfl) sc_L_pile_in.nd rfl rfl (sw_true rfl rfl rfl (by decide +kernel)) (pi_list (pe_slice sl_list (pv 1) (po_some pe_int) po_none)) (blkOk_by (own := [("_law_line", 4)]) (N := ["_law_lines_here_here", "_law_lines_here", "_law_words_here", "_law_tags_here", "_law_line"]) (sc := defScope s_L_pile_in) (by decide +kernel)) (fun _ _ _ _ _ => (pg_name (i := 4) sc_L_pile_in.nd rfl (Or.inl rfl))) (fun _ _ _ _ _ => pts_nil) (fun _ _ _ _ _ => (pe_callP (ok_L_tag_in T) (hr.mono (by decide)) (by rfl) pass0 (pa_cons (pv 4) pa_nil))))
      (pss_cons (ps_if (PW.pt (pw_or (pt_cmpR (op_inD (units65 hr)) pe_non (pv 3) (by rfl)) (pw_or1 (pt_cmp (pc_gt (pe_callP (ok_L_fine T) (hr.mono (by decide)) (by rfl) pass0 (pa_cons (pv 3) pa_nil)) pe_int))))) (pss_one (ps_ret pe_non)) pss_nil)
      (pss_one (ps_ret (pe_tup (pa_cons (pe_callP (ok_L_number_in T) (hr.mono (by decide)) (by rfl) pass0 (pa_cons (pe_ix ix_list (pv 2) pe_int (fun _ _ => rfl)) pa_nil)) (pa_cons (pv 3) pa_nil)))))))))), ?_⟩
    obtain ⟨r0, rs, es1⟩ : ∃ r0 rs, Txt.split z "\n" = r0 :: rs := by
      match e : Txt.split z "\n" with
      | k :: ws => exact ⟨k, ws, rfl⟩
      | [] =>
        have := split_pos z "\n"
        rw [e] at this
        simp at this
    have short : ∀ y ∈ r0 :: rs, y.length ≤ 640 := fun y hy => Nat.le_trans (part_short (x := z) (y := "\n") (by rw [es1]; exact hy)) hz
    have hrs : rs.length ≤ 642 := by
      have := split_le z "\n"
      rw [es1, List.length_cons] at this
      omega
    have er : rdS z = if (Txt.partition r0 " ").1 = "base" ∧ 2 ≤ numV (Txt.partition r0 " ").2.2 ∧ numV (Txt.partition r0 " ").2.2 ≤ 256 ∧ rs.length ≤ 6 then (match rs.mapM rdW with | some ws => if fineL ws ≤ 120 then some (numV (Txt.partition r0 " ").2.2, ws) else none | none => none) else none := by
      unfold rdS
      rw [es1]
      all_goals rfl
    refine ⟨_, rfl, ⟨_, rfl⟩, _, _, rfl, rfl, by decide +kernel, Nat.le_trans (Nat.add_le_add_right hz 2) (by decide), fun l hl => ?_⟩
    rw [es1]
    have s1 : Same H (upd H l (.lst ((r0 :: rs).map V.str))) := up hl
    have hL : SqL K (upd H l (.lst ((r0 :: rs).map V.str))) l (.str r0 :: rs.map V.str) := SqL.of upd_same
    generalize upd H l (.lst ((r0 :: rs).map V.str)) = H1 at *
    repeat (first | (refine And.intro ?_ ?_; · (first | exact rfl | (show (_ : Int) ≤ _; omega) | (show (_ : Int) < _; omega) | assumption | exact SqL.of upd_same | exact SqT.of upd_same | exact upd_same | exact Drew.at_ (by assumption) | exact at_of (j := 0) rfl rfl | exact at_of (j := 1) rfl rfl | exact at_of (j := 2) rfl rfl | exact at_of (j := 3) rfl rfl | exact .inr (by assumption) | exact .inl (by assumption) | exact .ty _ | exact dp_ty (by assumption) | exact kit_strD _ | exact kit_tupD _ | exact kit_intD _ | exact kit_boolD _ | exact ⟨_, rfl⟩ | decide | omega | exact (show 0 ≤ sizeLine by decide) | exact (show 1 ≤ sizeLine by decide) | exact (show 2 ≤ sizeLine by decide) | exact (show 3 ≤ sizeLine by decide) | exact (show 4 ≤ sizeLine by decide) | exact (show 5 ≤ sizeLine by decide) | exact (show 6 ≤ sizeLine by decide) | decide +kernel)) | apply Exists.intro | refine iteT ?_ | refine iteF ?_)
    refine ⟨Nat.le_trans (Nat.add_le_add_right (short r0 (.head _)) 2) (by decide), fun l2 hl2 => ?_⟩
    have s2 : Same H (upd H1 l2 (.lst ((Txt.split r0 " ").map V.str))) := fun x o e => up hl2 _ _ (s1 _ _ e)
    have hL2 := sqL_same (up (o := .lst ((Txt.split r0 " ").map V.str)) hl2) hL
    have hW : SqL K (upd H1 l2 (.lst ((Txt.split r0 " ").map V.str))) l2 ((Txt.split r0 " ").map V.str) := SqL.of upd_same
    generalize upd H1 l2 (.lst ((Txt.split r0 " ").map V.str)) = H2 at *
    have fin : ∀ H', Same H H' → rdS z = none → Q .non H' := fun H' s e => k _ _ s (.inl ⟨rfl, e⟩)
    repeat (first | (refine And.intro ?_ ?_; · (first | exact rfl | (show (_ : Int) ≤ _; omega) | (show (_ : Int) < _; omega) | assumption | exact SqL.of upd_same | exact SqT.of upd_same | exact upd_same | exact Drew.at_ (by assumption) | exact at_of (j := 0) rfl rfl | exact at_of (j := 1) rfl rfl | exact at_of (j := 2) rfl rfl | exact at_of (j := 3) rfl rfl | exact .inr (by assumption) | exact .inl (by assumption) | exact .ty _ | exact dp_ty (by assumption) | exact kit_strD _ | exact kit_tupD _ | exact kit_intD _ | exact kit_boolD _ | exact ⟨_, rfl⟩ | decide | omega | exact (show 0 ≤ sizeLine by decide) | exact (show 1 ≤ sizeLine by decide) | exact (show 2 ≤ sizeLine by decide) | exact (show 3 ≤ sizeLine by decide) | exact (show 4 ≤ sizeLine by decide) | exact (show 5 ≤ sizeLine by decide) | exact (show 6 ≤ sizeLine by decide) | decide +kernel)) | apply Exists.intro | refine iteT ?_ | refine iteF ?_)
    refine ifn (fun c => ?_) (fun c => ?_)
    · repeat (first | (refine And.intro ?_ ?_; · (first | exact rfl | (show (_ : Int) ≤ _; omega) | (show (_ : Int) < _; omega) | assumption | exact SqL.of upd_same | exact SqT.of upd_same | exact upd_same | exact Drew.at_ (by assumption) | exact at_of (j := 0) rfl rfl | exact at_of (j := 1) rfl rfl | exact at_of (j := 2) rfl rfl | exact at_of (j := 3) rfl rfl | exact .inr (by assumption) | exact .inl (by assumption) | exact .ty _ | exact dp_ty (by assumption) | exact kit_strD _ | exact kit_tupD _ | exact kit_intD _ | exact kit_boolD _ | exact ⟨_, rfl⟩ | decide | omega | exact (show 0 ≤ sizeLine by decide) | exact (show 1 ≤ sizeLine by decide) | exact (show 2 ≤ sizeLine by decide) | exact (show 3 ≤ sizeLine by decide) | exact (show 4 ≤ sizeLine by decide) | exact (show 5 ≤ sizeLine by decide) | exact (show 6 ≤ sizeLine by decide) | decide +kernel)) | apply Exists.intro | refine iteT ?_ | refine iteF ?_)
      refine fin _ s2 ?_
      rw [er, if_neg fun h => ?_]
      have := head_not (r0 := r0) fun e => c (by show ((((Txt.split r0 " ").map V.str).length : Nat) : Int) = 2; rw [List.length_map, e]; rfl)
      omega
    obtain ⟨w0, w1, ew⟩ := two_of c
    have hp := head_two ew
    have short2 : ∀ y ∈ [w0, w1], y.length ≤ 640 := fun y hy => Nat.le_trans (part_short (x := r0) (y := " ") (by rw [ew]; exact hy)) (short r0 (.head _))
    rw [hp] at er
    rw [ew] at hW c
    repeat (first | (refine And.intro ?_ ?_; · (first | exact rfl | (show (_ : Int) ≤ _; omega) | (show (_ : Int) < _; omega) | assumption | exact SqL.of upd_same | exact SqT.of upd_same | exact upd_same | exact Drew.at_ (by assumption) | exact at_of (j := 0) rfl rfl | exact at_of (j := 1) rfl rfl | exact at_of (j := 2) rfl rfl | exact at_of (j := 3) rfl rfl | exact .inr (by assumption) | exact .inl (by assumption) | exact .ty _ | exact dp_ty (by assumption) | exact kit_strD _ | exact kit_tupD _ | exact kit_intD _ | exact kit_boolD _ | exact ⟨_, rfl⟩ | decide | omega | exact (show 0 ≤ sizeLine by decide) | exact (show 1 ≤ sizeLine by decide) | exact (show 2 ≤ sizeLine by decide) | exact (show 3 ≤ sizeLine by decide) | exact (show 4 ≤ sizeLine by decide) | exact (show 5 ≤ sizeLine by decide) | exact (show 6 ≤ sizeLine by decide) | decide +kernel)) | apply Exists.intro | refine iteT ?_ | refine iteF ?_)
    refine ifn (fun c1 => ?_) (fun c1 => ?_)
    · repeat (first | (refine And.intro ?_ ?_; · (first | exact rfl | (show (_ : Int) ≤ _; omega) | (show (_ : Int) < _; omega) | assumption | exact SqL.of upd_same | exact SqT.of upd_same | exact upd_same | exact Drew.at_ (by assumption) | exact at_of (j := 0) rfl rfl | exact at_of (j := 1) rfl rfl | exact at_of (j := 2) rfl rfl | exact at_of (j := 3) rfl rfl | exact .inr (by assumption) | exact .inl (by assumption) | exact .ty _ | exact dp_ty (by assumption) | exact kit_strD _ | exact kit_tupD _ | exact kit_intD _ | exact kit_boolD _ | exact ⟨_, rfl⟩ | decide | omega | exact (show 0 ≤ sizeLine by decide) | exact (show 1 ≤ sizeLine by decide) | exact (show 2 ≤ sizeLine by decide) | exact (show 3 ≤ sizeLine by decide) | exact (show 4 ≤ sizeLine by decide) | exact (show 5 ≤ sizeLine by decide) | exact (show 6 ≤ sizeLine by decide) | decide +kernel)) | apply Exists.intro | refine iteT ?_ | refine iteF ?_)
      refine fin _ s2 ?_
      rw [er, if_neg fun h => c1 (congrArg V.str h.1)]
    have c1 : w0 = "base" := by injection c1
    have h1 := short2 w1 (.tail _ (.head _))
    repeat (first | (refine And.intro ?_ ?_; · (first | exact rfl | (show (_ : Int) ≤ _; omega) | (show (_ : Int) < _; omega) | assumption | exact SqL.of upd_same | exact SqT.of upd_same | exact upd_same | exact Drew.at_ (by assumption) | exact at_of (j := 0) rfl rfl | exact at_of (j := 1) rfl rfl | exact at_of (j := 2) rfl rfl | exact at_of (j := 3) rfl rfl | exact .inr (by assumption) | exact .inl (by assumption) | exact .ty _ | exact dp_ty (by assumption) | exact kit_strD _ | exact kit_tupD _ | exact kit_intD _ | exact kit_boolD _ | exact ⟨_, rfl⟩ | decide | omega | exact (show 0 ≤ sizeLine by decide) | exact (show 1 ≤ sizeLine by decide) | exact (show 2 ≤ sizeLine by decide) | exact (show 3 ≤ sizeLine by decide) | exact (show 4 ≤ sizeLine by decide) | exact (show 5 ≤ sizeLine by decide) | exact (show 6 ≤ sizeLine by decide) | decide +kernel)) | apply Exists.intro | refine iteT ?_ | refine iteF ?_)
    intro H3 s3
    have s23 : Same H H3 := fun x o e => s3 _ _ (s2 _ _ e)
    have hL3 := sqL_same s3 hL2
    have hW3 := sqL_same s3 hW
    repeat (first | (refine And.intro ?_ ?_; · (first | exact rfl | (show (_ : Int) ≤ _; omega) | (show (_ : Int) < _; omega) | assumption | exact SqL.of upd_same | exact SqT.of upd_same | exact upd_same | exact Drew.at_ (by assumption) | exact at_of (j := 0) rfl rfl | exact at_of (j := 1) rfl rfl | exact at_of (j := 2) rfl rfl | exact at_of (j := 3) rfl rfl | exact .inr (by assumption) | exact .inl (by assumption) | exact .ty _ | exact dp_ty (by assumption) | exact kit_strD _ | exact kit_tupD _ | exact kit_intD _ | exact kit_boolD _ | exact ⟨_, rfl⟩ | decide | omega | exact (show 0 ≤ sizeLine by decide) | exact (show 1 ≤ sizeLine by decide) | exact (show 2 ≤ sizeLine by decide) | exact (show 3 ≤ sizeLine by decide) | exact (show 4 ≤ sizeLine by decide) | exact (show 5 ≤ sizeLine by decide) | exact (show 6 ≤ sizeLine by decide) | decide +kernel)) | apply Exists.intro | refine iteT ?_ | refine iteF ?_)
    refine ifd (fun c2 => ?_) (fun c2 => ?_)
    · repeat (first | (refine And.intro ?_ ?_; · (first | exact rfl | (show (_ : Int) ≤ _; omega) | (show (_ : Int) < _; omega) | assumption | exact SqL.of upd_same | exact SqT.of upd_same | exact upd_same | exact Drew.at_ (by assumption) | exact at_of (j := 0) rfl rfl | exact at_of (j := 1) rfl rfl | exact at_of (j := 2) rfl rfl | exact at_of (j := 3) rfl rfl | exact .inr (by assumption) | exact .inl (by assumption) | exact .ty _ | exact dp_ty (by assumption) | exact kit_strD _ | exact kit_tupD _ | exact kit_intD _ | exact kit_boolD _ | exact ⟨_, rfl⟩ | decide | omega | exact (show 0 ≤ sizeLine by decide) | exact (show 1 ≤ sizeLine by decide) | exact (show 2 ≤ sizeLine by decide) | exact (show 3 ≤ sizeLine by decide) | exact (show 4 ≤ sizeLine by decide) | exact (show 5 ≤ sizeLine by decide) | exact (show 6 ≤ sizeLine by decide) | decide +kernel)) | apply Exists.intro | refine iteT ?_ | refine iteF ?_)
      refine ifn (fun c3 => ?_) (fun c3 => ?_)
      · refine fin _ s23 ?_
        rw [er, if_neg fun h => c3 h.2.2.1]
      repeat (first | (refine And.intro ?_ ?_; · (first | exact rfl | (show (_ : Int) ≤ _; omega) | (show (_ : Int) < _; omega) | assumption | exact SqL.of upd_same | exact SqT.of upd_same | exact upd_same | exact Drew.at_ (by assumption) | exact at_of (j := 0) rfl rfl | exact at_of (j := 1) rfl rfl | exact at_of (j := 2) rfl rfl | exact at_of (j := 3) rfl rfl | exact .inr (by assumption) | exact .inl (by assumption) | exact .ty _ | exact dp_ty (by assumption) | exact kit_strD _ | exact kit_tupD _ | exact kit_intD _ | exact kit_boolD _ | exact ⟨_, rfl⟩ | decide | omega | exact (show 0 ≤ sizeLine by decide) | exact (show 1 ≤ sizeLine by decide) | exact (show 2 ≤ sizeLine by decide) | exact (show 3 ≤ sizeLine by decide) | exact (show 4 ≤ sizeLine by decide) | exact (show 5 ≤ sizeLine by decide) | exact (show 6 ≤ sizeLine by decide) | decide +kernel)) | apply Exists.intro | refine iteT ?_ | refine iteF ?_)
      refine ifd (fun c4 => ?_) (fun c4 => ?_)
      · have c4 : ((.str r0 :: rs.map V.str).length : Int) > 7 := c4
        rw [List.length_cons, List.length_map] at c4
        refine fin _ s23 ?_
        rw [er, if_neg fun h => ?_]
        have := h.2.2.2
        omega
      have c4 : ¬ ((.str r0 :: rs.map V.str).length : Int) > 7 := c4
      rw [List.length_cons, List.length_map] at c4
      rw [if_pos ⟨c1, c2, c3, by omega⟩] at er
      repeat (first | (refine And.intro ?_ ?_; · (first | exact rfl | (show (_ : Int) ≤ _; omega) | (show (_ : Int) < _; omega) | assumption | exact SqL.of upd_same | exact SqT.of upd_same | exact upd_same | exact Drew.at_ (by assumption) | exact at_of (j := 0) rfl rfl | exact at_of (j := 1) rfl rfl | exact at_of (j := 2) rfl rfl | exact at_of (j := 3) rfl rfl | exact .inr (by assumption) | exact .inl (by assumption) | exact .ty _ | exact dp_ty (by assumption) | exact kit_strD _ | exact kit_tupD _ | exact kit_intD _ | exact kit_boolD _ | exact ⟨_, rfl⟩ | decide | omega | exact (show 0 ≤ sizeLine by decide) | exact (show 1 ≤ sizeLine by decide) | exact (show 2 ≤ sizeLine by decide) | exact (show 3 ≤ sizeLine by decide) | exact (show 4 ≤ sizeLine by decide) | exact (show 5 ≤ sizeLine by decide) | exact (show 6 ≤ sizeLine by decide) | decide +kernel)) | apply Exists.intro | refine iteT ?_ | refine iteF ?_)
      intro q hq
      rw [cut1]
      have s4 : Same H (upd H3 q (.lst (rs.map V.str))) := fun x o e => up hq _ _ (s23 _ _ e)
      have hL4 := sqL_same (up (o := .lst (rs.map V.str)) hq) hL3
      have hW4 := sqL_same (up (o := .lst (rs.map V.str)) hq) hW3
      have hq4 : SqL K (upd H3 q (.lst (rs.map V.str))) q (rs.map V.str) := SqL.of upd_same
      generalize upd H3 q (.lst (rs.map V.str)) = H4 at *
      refine ⟨_, rfl, ⟨_, hq4⟩, fun D hD => ?_⟩
      have hn : ∀ {b : Addr} {o : HO}, H b = some o → b ≠ D := fun e => ne_of_none (s4 _ _ e) hD
      refine lc_list (K := K) (a := q) (xs := rs.map V.str) (Pv := fun j H' => Same H4 H' ∧ ∃ zs, H' D = some (.lst zs) ∧ TagRds H' zs (rs.take j)) ⟨up hD, _, upd_same, .nil⟩ (fun j H' _ h => sqL_same h.1 hq4) ?_ ?_
      · rintro j x H5 hj ⟨hs, zs, hd, hr⟩
        obtain ⟨y, hy, rfl⟩ : ∃ y, rs[j]? = some y ∧ x = V.str y := by
          rw [List.getElem?_map] at hj
          cases e : rs[j]? with
          | none =>
            rw [e] at hj
            cases hj
          | some n =>
            rw [e] at hj
            exact ⟨n, rfl, (Option.some.inj hj).symm⟩
        have hjl : j < rs.length := by
          rcases List.getElem?_eq_some_iff.mp hy with ⟨z, _⟩
          exact z
        have hy6 := short y (.tail _ (List.mem_of_getElem? hy))
        refine ⟨rfl, ?_⟩
        repeat (first | (refine And.intro ?_ ?_; · (first | exact rfl | (show (_ : Int) ≤ _; omega) | (show (_ : Int) < _; omega) | assumption | exact SqL.of upd_same | exact SqT.of upd_same | exact upd_same | exact Drew.at_ (by assumption) | exact at_of (j := 0) rfl rfl | exact at_of (j := 1) rfl rfl | exact at_of (j := 2) rfl rfl | exact at_of (j := 3) rfl rfl | exact .inr (by assumption) | exact .inl (by assumption) | exact .ty _ | exact dp_ty (by assumption) | exact kit_strD _ | exact kit_tupD _ | exact kit_intD _ | exact kit_boolD _ | exact ⟨_, rfl⟩ | decide | omega | exact (show 0 ≤ sizeLine by decide) | exact (show 1 ≤ sizeLine by decide) | exact (show 2 ≤ sizeLine by decide) | exact (show 3 ≤ sizeLine by decide) | exact (show 4 ≤ sizeLine by decide) | exact (show 5 ≤ sizeLine by decide) | exact (show 6 ≤ sizeLine by decide) | decide +kernel)) | apply Exists.intro | refine iteT ?_ | refine iteF ?_)
        intro v H6 s6 hv
        refine ⟨zs, s6 _ _ hd, ?_, fun x o e => ?_, _, upd_same, ?_⟩
        · rw [hr.len, List.length_take, sizeLine_eq]
          omega
        · rw [upd_ne (ne_of_none e hD)]
          exact s6 _ _ (hs _ _ e)
        · rw [List.take_succ, hy]
          exact TagRds.snoc ((hr.same s6).put (s6 _ _ hd)) (hv.put (s6 _ _ hd))
      rintro H5 ⟨hs, zs, hd, hr⟩
      rw [List.length_map, List.take_length] at hr
      have s5 : Same H H5 := fun x o e => hs _ _ (s4 _ _ e)
      have hL5 := sqL_same hs hL4
      have hW5 := sqL_same hs hW4
      have lnew : H D = none := same_before s4 hD
      have hno := rds_none rs
      repeat (first | (refine And.intro ?_ ?_; · (first | exact rfl | (show (_ : Int) ≤ _; omega) | (show (_ : Int) < _; omega) | assumption | exact SqL.of upd_same | exact SqT.of upd_same | exact upd_same | exact Drew.at_ (by assumption) | exact at_of (j := 0) rfl rfl | exact at_of (j := 1) rfl rfl | exact at_of (j := 2) rfl rfl | exact at_of (j := 3) rfl rfl | exact .inr (by assumption) | exact .inl (by assumption) | exact .ty _ | exact dp_ty (by assumption) | exact kit_strD _ | exact kit_tupD _ | exact kit_intD _ | exact kit_boolD _ | exact ⟨_, rfl⟩ | decide | omega | exact (show 0 ≤ sizeLine by decide) | exact (show 1 ≤ sizeLine by decide) | exact (show 2 ≤ sizeLine by decide) | exact (show 3 ≤ sizeLine by decide) | exact (show 4 ≤ sizeLine by decide) | exact (show 5 ≤ sizeLine by decide) | exact (show 6 ≤ sizeLine by decide) | decide +kernel)) | apply Exists.intro | refine iteT ?_ | refine iteF ?_)
      refine ⟨.non, .lst (SqL.of hd) hr.dp, rfl, rdDs_shp rs, ?_⟩
      repeat (first | (refine And.intro ?_ ?_; · (first | exact rfl | (show (_ : Int) ≤ _; omega) | (show (_ : Int) < _; omega) | assumption | exact SqL.of upd_same | exact SqT.of upd_same | exact upd_same | exact Drew.at_ (by assumption) | exact at_of (j := 0) rfl rfl | exact at_of (j := 1) rfl rfl | exact at_of (j := 2) rfl rfl | exact at_of (j := 3) rfl rfl | exact .inr (by assumption) | exact .inl (by assumption) | exact .ty _ | exact dp_ty (by assumption) | exact kit_strD _ | exact kit_tupD _ | exact kit_intD _ | exact kit_boolD _ | exact ⟨_, rfl⟩ | decide | omega | exact (show 0 ≤ sizeLine by decide) | exact (show 1 ≤ sizeLine by decide) | exact (show 2 ≤ sizeLine by decide) | exact (show 3 ≤ sizeLine by decide) | exact (show 4 ≤ sizeLine by decide) | exact (show 5 ≤ sizeLine by decide) | exact (show 6 ≤ sizeLine by decide) | decide +kernel)) | apply Exists.intro | refine iteT ?_ | refine iteF ?_)
      cases em : rs.mapM rdW with
      | none =>
        rw [em] at hno er
        refine ifw_pos hno ?_
        repeat (first | (refine And.intro ?_ ?_; · (first | exact rfl | (show (_ : Int) ≤ _; omega) | (show (_ : Int) < _; omega) | assumption | exact SqL.of upd_same | exact SqT.of upd_same | exact upd_same | exact Drew.at_ (by assumption) | exact at_of (j := 0) rfl rfl | exact at_of (j := 1) rfl rfl | exact at_of (j := 2) rfl rfl | exact at_of (j := 3) rfl rfl | exact .inr (by assumption) | exact .inl (by assumption) | exact .ty _ | exact dp_ty (by assumption) | exact kit_strD _ | exact kit_tupD _ | exact kit_intD _ | exact kit_boolD _ | exact ⟨_, rfl⟩ | decide | omega | exact (show 0 ≤ sizeLine by decide) | exact (show 1 ≤ sizeLine by decide) | exact (show 2 ≤ sizeLine by decide) | exact (show 3 ≤ sizeLine by decide) | exact (show 4 ≤ sizeLine by decide) | exact (show 5 ≤ sizeLine by decide) | exact (show 6 ≤ sizeLine by decide) | decide +kernel)) | apply Exists.intro | refine iteT ?_ | refine iteF ?_)
        exact fin _ s5 er
      | some ws =>
        rw [em] at hno er
        refine ifw_neg hno ?_
        have hT := hr.all em
        obtain ⟨wok, wl⟩ := rds_ok em
        repeat (first | (refine And.intro ?_ ?_; · (first | exact rfl | (show (_ : Int) ≤ _; omega) | (show (_ : Int) < _; omega) | assumption | exact SqL.of upd_same | exact SqT.of upd_same | exact upd_same | exact Drew.at_ (by assumption) | exact at_of (j := 0) rfl rfl | exact at_of (j := 1) rfl rfl | exact at_of (j := 2) rfl rfl | exact at_of (j := 3) rfl rfl | exact .inr (by assumption) | exact .inl (by assumption) | exact .ty _ | exact dp_ty (by assumption) | exact kit_strD _ | exact kit_tupD _ | exact kit_intD _ | exact kit_boolD _ | exact ⟨_, rfl⟩ | decide | omega | exact (show 0 ≤ sizeLine by decide) | exact (show 1 ≤ sizeLine by decide) | exact (show 2 ≤ sizeLine by decide) | exact (show 3 ≤ sizeLine by decide) | exact (show 4 ≤ sizeLine by decide) | exact (show 5 ≤ sizeLine by decide) | exact (show 6 ≤ sizeLine by decide) | decide +kernel)) | apply Exists.intro | refine iteT ?_ | refine iteF ?_)
        intro H6 s6
        have s60 : Same H H6 := fun x o e => s6 _ _ (s5 _ _ e)
        have hW6 := sqL_same s6 hW5
        repeat (first | (refine And.intro ?_ ?_; · (first | exact rfl | (show (_ : Int) ≤ _; omega) | (show (_ : Int) < _; omega) | assumption | exact SqL.of upd_same | exact SqT.of upd_same | exact upd_same | exact Drew.at_ (by assumption) | exact at_of (j := 0) rfl rfl | exact at_of (j := 1) rfl rfl | exact at_of (j := 2) rfl rfl | exact at_of (j := 3) rfl rfl | exact .inr (by assumption) | exact .inl (by assumption) | exact .ty _ | exact dp_ty (by assumption) | exact kit_strD _ | exact kit_tupD _ | exact kit_intD _ | exact kit_boolD _ | exact ⟨_, rfl⟩ | decide | omega | exact (show 0 ≤ sizeLine by decide) | exact (show 1 ≤ sizeLine by decide) | exact (show 2 ≤ sizeLine by decide) | exact (show 3 ≤ sizeLine by decide) | exact (show 4 ≤ sizeLine by decide) | exact (show 5 ≤ sizeLine by decide) | exact (show 6 ≤ sizeLine by decide) | decide +kernel)) | apply Exists.intro | refine iteT ?_ | refine iteF ?_)
        refine ifd (fun c5 => ?_) (fun c5 => ?_)
        · have c5 : fineL ws > 120 := c5
          repeat (first | (refine And.intro ?_ ?_; · (first | exact rfl | (show (_ : Int) ≤ _; omega) | (show (_ : Int) < _; omega) | assumption | exact SqL.of upd_same | exact SqT.of upd_same | exact upd_same | exact Drew.at_ (by assumption) | exact at_of (j := 0) rfl rfl | exact at_of (j := 1) rfl rfl | exact at_of (j := 2) rfl rfl | exact at_of (j := 3) rfl rfl | exact .inr (by assumption) | exact .inl (by assumption) | exact .ty _ | exact dp_ty (by assumption) | exact kit_strD _ | exact kit_tupD _ | exact kit_intD _ | exact kit_boolD _ | exact ⟨_, rfl⟩ | decide | omega | exact (show 0 ≤ sizeLine by decide) | exact (show 1 ≤ sizeLine by decide) | exact (show 2 ≤ sizeLine by decide) | exact (show 3 ≤ sizeLine by decide) | exact (show 4 ≤ sizeLine by decide) | exact (show 5 ≤ sizeLine by decide) | exact (show 6 ≤ sizeLine by decide) | decide +kernel)) | apply Exists.intro | refine iteT ?_ | refine iteF ?_)
          refine fin _ s60 (er.trans (if_neg (by omega)))
        · have c5 : ¬ fineL ws > 120 := c5
          have er : rdS z = some (numV w1, ws) := er.trans (if_pos (by omega))
          repeat (first | (refine And.intro ?_ ?_; · (first | exact rfl | (show (_ : Int) ≤ _; omega) | (show (_ : Int) < _; omega) | assumption | exact SqL.of upd_same | exact SqT.of upd_same | exact upd_same | exact Drew.at_ (by assumption) | exact at_of (j := 0) rfl rfl | exact at_of (j := 1) rfl rfl | exact at_of (j := 2) rfl rfl | exact at_of (j := 3) rfl rfl | exact .inr (by assumption) | exact .inl (by assumption) | exact .ty _ | exact dp_ty (by assumption) | exact kit_strD _ | exact kit_tupD _ | exact kit_intD _ | exact kit_boolD _ | exact ⟨_, rfl⟩ | decide | omega | exact (show 0 ≤ sizeLine by decide) | exact (show 1 ≤ sizeLine by decide) | exact (show 2 ≤ sizeLine by decide) | exact (show 3 ≤ sizeLine by decide) | exact (show 4 ≤ sizeLine by decide) | exact (show 5 ≤ sizeLine by decide) | exact (show 6 ≤ sizeLine by decide) | decide +kernel)) | apply Exists.intro | refine iteT ?_ | refine iteF ?_)
          intro H7 s7
          have hd7 := s7 _ _ (s6 _ _ hd)
          repeat (first | (refine And.intro ?_ ?_; · (first | exact rfl | (show (_ : Int) ≤ _; omega) | (show (_ : Int) < _; omega) | assumption | exact SqL.of upd_same | exact SqT.of upd_same | exact upd_same | exact Drew.at_ (by assumption) | exact at_of (j := 0) rfl rfl | exact at_of (j := 1) rfl rfl | exact at_of (j := 2) rfl rfl | exact at_of (j := 3) rfl rfl | exact .inr (by assumption) | exact .inl (by assumption) | exact .ty _ | exact dp_ty (by assumption) | exact kit_strD _ | exact kit_tupD _ | exact kit_intD _ | exact kit_boolD _ | exact ⟨_, rfl⟩ | decide | omega | exact (show 0 ≤ sizeLine by decide) | exact (show 1 ≤ sizeLine by decide) | exact (show 2 ≤ sizeLine by decide) | exact (show 3 ≤ sizeLine by decide) | exact (show 4 ≤ sizeLine by decide) | exact (show 5 ≤ sizeLine by decide) | exact (show 6 ≤ sizeLine by decide) | decide +kernel)) | apply Exists.intro | refine iteT ?_ | refine iteF ?_)
          intro p hp
          have s8 := up (o := .tup [.int (numV w1), .ref D]) hp
          refine k _ _ (fun x o e => s8 _ _ (s7 _ _ (s60 _ _ e))) (.inr ⟨p, D, zs, numV w1, ws, rfl, upd_same, s8 _ _ hd7, lnew, ((hT.same s6).same s7).same s8, er, wok, c2, c3⟩)
    · repeat (first | (refine And.intro ?_ ?_; · (first | exact rfl | (show (_ : Int) ≤ _; omega) | (show (_ : Int) < _; omega) | assumption | exact SqL.of upd_same | exact SqT.of upd_same | exact upd_same | exact Drew.at_ (by assumption) | exact at_of (j := 0) rfl rfl | exact at_of (j := 1) rfl rfl | exact at_of (j := 2) rfl rfl | exact at_of (j := 3) rfl rfl | exact .inr (by assumption) | exact .inl (by assumption) | exact .ty _ | exact dp_ty (by assumption) | exact kit_strD _ | exact kit_tupD _ | exact kit_intD _ | exact kit_boolD _ | exact ⟨_, rfl⟩ | decide | omega | exact (show 0 ≤ sizeLine by decide) | exact (show 1 ≤ sizeLine by decide) | exact (show 2 ≤ sizeLine by decide) | exact (show 3 ≤ sizeLine by decide) | exact (show 4 ≤ sizeLine by decide) | exact (show 5 ≤ sizeLine by decide) | exact (show 6 ≤ sizeLine by decide) | decide +kernel)) | apply Exists.intro | refine iteT ?_ | refine iteF ?_)
      refine fin _ s23 ?_
      rw [er, if_neg fun h => c2 h.2.1]
end
/-! ### texts that the law makes: short, of plain signs -/
def Good (n : Nat) (s : Str) : Prop := s.length ≤ n ∧ PyData.strOk s = true
theorem ok_mem {s : Str} : PyData.strOk s = true ↔ ∀ c ∈ TL.tl s, c < 0x110000 := by
  show s.cps.all (· < 0x110000) = true ↔ _
  rw [← Array.all_toList, List.all_eq_true]
  exact ⟨fun h c hc => of_decide_eq_true (h c hc), fun h c hc => decide_eq_true (h c hc)⟩
theorem joinL_mem2 {S : List Nat} {c : Nat} : ∀ {ps : List (List Nat)}, c ∈ TL.joinL S ps → c ∈ S ∨ ∃ p ∈ ps, c ∈ p
  | [], h => by cases h
  | [p], h => .inr ⟨p, .head _, h⟩
  | p :: q :: r, h => by
    have h : c ∈ p ++ (S ++ TL.joinL S (q :: r)) := h
    rcases List.mem_append.mp h with h | h
    · exact .inr ⟨p, .head _, h⟩
    rcases List.mem_append.mp h with h | h
    · exact .inl h
    rcases joinL_mem2 h with h | ⟨x, hx, h⟩
    · exact .inl h
    · exact .inr ⟨x, .tail _ hx, h⟩
theorem good_app {m n : Nat} {x y : Str} (h : Good m x) (g : Good n y) : Good (m + n) (x ++ y) := by
  refine ⟨by rw [app_len]; exact Nat.add_le_add h.1 g.1, ok_mem.mpr fun c hc => ?_⟩
  rw [TL.tl_append] at hc
  rcases List.mem_append.mp hc with hc | hc
  · exact ok_mem.mp h.2 c hc
  · exact ok_mem.mp g.2 c hc
theorem sum_le_of {n : Nat} : ∀ {ps : List Str}, (∀ p ∈ ps, Good n p) → (ps.map (·.length)).sum ≤ n * ps.length
  | [], _ => Nat.zero_le _
  | p :: ps, h => by
    have h1 := (h p (.head _)).1
    have h2 := sum_le_of fun q hq => h q (.tail _ hq)
    simp only [List.map_cons, List.sum_cons, List.length_cons, Nat.mul_add]
    omega
theorem good_join {n : Nat} {sep : Str} (hs : Good 1 sep) {ps : List Str} (h : ∀ p ∈ ps, Good n p) : Good ((n + 1) * ps.length) (Txt.join sep ps) := by
  rw [TL.join_eq]
  refine ⟨?_, ok_mem.mpr fun c hc => ?_⟩
  · have h1 := StrLaws.join_length_le sep ps
    have h2 := sum_le_of h
    have h3 := Nat.mul_le_mul_left ps.length hs.1
    rw [Nat.add_mul]
    omega
  · rw [TL.tl_join] at hc
    rcases joinL_mem2 hc with hc | ⟨p, hp, hc⟩
    · exact ok_mem.mp hs.2 c hc
    · obtain ⟨q, hq, rfl⟩ := List.mem_map.mp hp
      exact ok_mem.mp (h q hq).2 c hc
theorem good_num {i : Int} (h0 : 0 ≤ i) (h1 : i ≤ 1000) : Good 5 (Str.ofString (toString i)) := by
  refine ⟨Nat.le_trans (toString_length_le h0 (k := 4) (by decide) (by omega)) (by decide), ok_mem.mpr fun c hc => ?_⟩
  obtain ⟨n, rfl⟩ : ∃ n : Nat, i = (n : Int) := ⟨i.toNat, by omega⟩
  rw [TL.tl_num] at hc
  have := TL.numL_digits n c hc
  omega
theorem good_mono {m n : Nat} {s : Str} (h : Good m s) (k : m ≤ n) : Good n s := ⟨Nat.le_trans h.1 k, h.2⟩
theorem good_kind (a : Wr) : Good 6 a.kind := by
  cases a with
  | plus _ => exact (show Good 6 "plus" from ⟨by decide, by decide +kernel⟩)
  | told _ => exact (show Good 6 "told" from ⟨by decide, by decide +kernel⟩)
  | whole _ => exact (show Good 6 "whole" from ⟨by decide, by decide +kernel⟩)
  | pieces _ _ => exact (show Good 6 "pieces" from ⟨by decide, by decide +kernel⟩)
  | cut _ _ => exact (show Good 6 "cut" from ⟨by decide, by decide +kernel⟩)
  | coded _ _ => exact (show Good 6 "coded" from ⟨by decide, by decide +kernel⟩)
  | filled _ => exact (show Good 6 "filled" from ⟨by decide, by decide +kernel⟩)
theorem nums_good {a : Wr} (h : a.ok) : ∀ i ∈ a.nums, 0 ≤ i ∧ i ≤ 1000 := by
  intro i hi
  cases a with
  | plus c => simp only [Wr.nums, List.mem_cons, List.not_mem_nil, or_false] at hi; subst hi; exact h
  | told c => simp only [Wr.nums, List.mem_cons, List.not_mem_nil, or_false] at hi; subst hi; exact h
  | whole c => simp only [Wr.nums, List.mem_cons, List.not_mem_nil, or_false] at hi; subst hi; exact h
  | filled c => simp only [Wr.nums, List.mem_cons, List.not_mem_nil, or_false] at hi; subst hi; simp only [Wr.ok] at h; omega
  | pieces m c => simp only [Wr.nums, List.mem_cons, List.not_mem_nil, or_false] at hi; simp only [Wr.ok] at h; omega
  | cut m c => simp only [Wr.nums, List.mem_cons, List.not_mem_nil, or_false] at hi; simp only [Wr.ok] at h; omega
  | coded m c => simp only [Wr.nums, List.mem_cons, List.not_mem_nil, or_false] at hi; simp only [Wr.ok] at h; omega
theorem nums_len2 (a : Wr) : a.nums.length ≤ 2 := by cases a <;> simp [Wr.nums]
def spLWords : Sp := fun vs H Q _ => ∃ (p : Addr) (a : Wr), vs = [.ref p] ∧ TagAt H p a ∧ a.ok ∧ ∀ s H', Good 21 s → Same H H' → Q (.str s) H'
section
variable {P : Program} {w : World} {K : PySem.W.Frag} {mg : Str → Option Value} {base : Heap}
theorem ok_L_words (T : Tx w K mg) : Prom P w K mg base CX0 1 "_law_words" s_L_words ["_law_tag"] spLWords := by
  refine Prom.of T.d_L_words sc_L_words (fun vs H Q E h => ?_) (fun _ _ _ _ _ _ us hl => match us, hl with | [_], _ => rfl) (fun f cdv A outer s H vs Q E hr h => ?_)
  · obtain ⟨p, a, rfl, _⟩ := h
    rfl
  · obtain ⟨p, a, rfl, ht, ok, k⟩ := h
    refine ⟨_, (pss_one (ps_ret (pe_join pe_str (pe_op op_cat (pe_lst (pa_cons (pe_ix ix_tup (pv 0) pe_int (fun _ _ => rfl)) pa_nil)) (pe_lc (own := [("_law_part_here", 1)]) (g := (gName 1)) (tt := tYes) (by rfl) sc_L_words.nd (pi_tup (pe_slice sl_tup (pv 0) (po_some pe_int) po_none)) (blkOk_by (own := [("_law_part_here", 1)]) (N := ["_law_tag", "_law_part_here"]) (sc := defScope s_L_words) (by decide +kernel)) (fun _ _ _ _ _ => (pg_name (i := 1) sc_L_words.nd rfl (Or.inl rfl))) (fun _ _ _ _ _ => pts_nil) (fun _ _ _ _ _ => (pe_callTy call_str_int (by rfl) T.b_str (by decide +kernel) (pa_cons (pv 1) pa_nil)))))))), ?_⟩
    have ht : H p = some (.tup (.str a.kind :: a.nums.map V.int)) := ht
    have hT : SqT K H p (.str a.kind :: a.nums.map V.int) := SqT.of ht
    repeat (first | (refine And.intro ?_ ?_; · (first | exact rfl | (show (_ : Int) ≤ _; omega) | (show (_ : Int) < _; omega) | assumption | exact SqL.of upd_same | exact SqT.of upd_same | exact upd_same | exact Drew.at_ (by assumption) | exact at_of (j := 0) rfl rfl | exact at_of (j := 1) rfl rfl | exact at_of (j := 2) rfl rfl | exact at_of (j := 3) rfl rfl | exact .inr (by assumption) | exact .inl (by assumption) | exact .ty _ | exact dp_ty (by assumption) | exact kit_strD _ | exact kit_tupD _ | exact kit_intD _ | exact kit_boolD _ | exact ⟨_, rfl⟩ | decide | omega | exact (show 0 ≤ sizeLine by decide) | exact (show 1 ≤ sizeLine by decide) | exact (show 2 ≤ sizeLine by decide) | exact (show 3 ≤ sizeLine by decide) | exact (show 4 ≤ sizeLine by decide) | exact (show 5 ≤ sizeLine by decide) | exact (show 6 ≤ sizeLine by decide) | decide +kernel)) | apply Exists.intro | refine iteT ?_ | refine iteF ?_)
    intro l hl
    have s1 : Same H (upd H l (.lst [.str a.kind])) := up hl
    have hT1 := sqT_same s1 hT
    have gl : upd H l (.lst [.str a.kind]) l = some (.lst [.str a.kind]) := upd_same
    generalize upd H l (.lst [.str a.kind]) = H1 at *
    repeat (first | (refine And.intro ?_ ?_; · (first | exact rfl | (show (_ : Int) ≤ _; omega) | (show (_ : Int) < _; omega) | assumption | exact SqL.of upd_same | exact SqT.of upd_same | exact upd_same | exact Drew.at_ (by assumption) | exact at_of (j := 0) rfl rfl | exact at_of (j := 1) rfl rfl | exact at_of (j := 2) rfl rfl | exact at_of (j := 3) rfl rfl | exact .inr (by assumption) | exact .inl (by assumption) | exact .ty _ | exact dp_ty (by assumption) | exact kit_strD _ | exact kit_tupD _ | exact kit_intD _ | exact kit_boolD _ | exact ⟨_, rfl⟩ | decide | omega | exact (show 0 ≤ sizeLine by decide) | exact (show 1 ≤ sizeLine by decide) | exact (show 2 ≤ sizeLine by decide) | exact (show 3 ≤ sizeLine by decide) | exact (show 4 ≤ sizeLine by decide) | exact (show 5 ≤ sizeLine by decide) | exact (show 6 ≤ sizeLine by decide) | decide +kernel)) | apply Exists.intro | refine iteT ?_ | refine iteF ?_)
    refine ⟨cut1_no, fun q hq => ?_⟩
    rw [cut1]
    have s2 : Same H (upd H1 q (.tup (a.nums.map V.int))) := fun x o e => up hq _ _ (s1 _ _ e)
    have hq2 : SqT K (upd H1 q (.tup (a.nums.map V.int))) q (a.nums.map V.int) := SqT.of upd_same
    have gl2 := up (o := .tup (a.nums.map V.int)) hq _ _ gl
    generalize upd H1 q (.tup (a.nums.map V.int)) = H2 at *
    refine ⟨_, rfl, ⟨_, hq2⟩, fun D hD => ?_⟩
    refine lc_tup (K := K) (a := q) (xs := a.nums.map V.int) (Pv := fun j H' => Same H2 H' ∧ H' D = some (.lst (((a.nums.take j).map fun i => Str.ofString (toString i)).map V.str))) ⟨up hD, upd_same⟩ (fun j H' _ h => sqT_same h.1 hq2) ?_ ?_
    · rintro j x H3 hj ⟨hs, hd⟩
      obtain ⟨i, hi, rfl⟩ : ∃ y, a.nums[j]? = some y ∧ x = V.int y := by
        rw [List.getElem?_map] at hj
        cases e : a.nums[j]? with
        | none =>
          rw [e] at hj
          cases hj
        | some n =>
          rw [e] at hj
          exact ⟨n, rfl, (Option.some.inj hj).symm⟩
      have hb := nums_good ok i (List.mem_of_getElem? hi)
      have h2 := nums_len2 a
      have lg : i.natAbs.log2 < 1920 := log2_any (by omega) (by omega)
      refine ⟨rfl, ?_⟩
      repeat (first | (refine And.intro ?_ ?_; · (first | exact rfl | (show (_ : Int) ≤ _; omega) | (show (_ : Int) < _; omega) | assumption | exact SqL.of upd_same | exact SqT.of upd_same | exact upd_same | exact Drew.at_ (by assumption) | exact at_of (j := 0) rfl rfl | exact at_of (j := 1) rfl rfl | exact at_of (j := 2) rfl rfl | exact at_of (j := 3) rfl rfl | exact .inr (by assumption) | exact .inl (by assumption) | exact .ty _ | exact dp_ty (by assumption) | exact kit_strD _ | exact kit_tupD _ | exact kit_intD _ | exact kit_boolD _ | exact ⟨_, rfl⟩ | decide | omega | exact (show 0 ≤ sizeLine by decide) | exact (show 1 ≤ sizeLine by decide) | exact (show 2 ≤ sizeLine by decide) | exact (show 3 ≤ sizeLine by decide) | exact (show 4 ≤ sizeLine by decide) | exact (show 5 ≤ sizeLine by decide) | exact (show 6 ≤ sizeLine by decide) | decide +kernel)) | apply Exists.intro | refine iteT ?_ | refine iteF ?_)
      refine ⟨?_, fun x o e => ?_, ?_⟩
      · rw [List.length_map, List.length_map, List.length_take, sizeLine_eq]
        omega
      · rw [upd_ne (ne_of_none e hD)]
        exact hs _ _ e
      · rw [upd_same, List.take_succ, hi, List.map_append, List.map_append]
        rfl
    rintro H3 ⟨hs, hd⟩
    rw [List.length_map, List.take_length] at hd
    have gl3 := hs _ _ gl2
    repeat (first | (refine And.intro ?_ ?_; · (first | exact rfl | (show (_ : Int) ≤ _; omega) | (show (_ : Int) < _; omega) | assumption | exact SqL.of upd_same | exact SqT.of upd_same | exact upd_same | exact Drew.at_ (by assumption) | exact at_of (j := 0) rfl rfl | exact at_of (j := 1) rfl rfl | exact at_of (j := 2) rfl rfl | exact at_of (j := 3) rfl rfl | exact .inr (by assumption) | exact .inl (by assumption) | exact .ty _ | exact dp_ty (by assumption) | exact kit_strD _ | exact kit_tupD _ | exact kit_intD _ | exact kit_boolD _ | exact ⟨_, rfl⟩ | decide | omega | exact (show 0 ≤ sizeLine by decide) | exact (show 1 ≤ sizeLine by decide) | exact (show 2 ≤ sizeLine by decide) | exact (show 3 ≤ sizeLine by decide) | exact (show 4 ≤ sizeLine by decide) | exact (show 5 ≤ sizeLine by decide) | exact (show 6 ≤ sizeLine by decide) | decide +kernel)) | apply Exists.intro | refine iteT ?_ | refine iteF ?_)
    have n2 := nums_len2 a
    refine ⟨sz (by rw [List.length_map, List.length_map]; show 1 + _ ≤ 5000; omega), fun p2 hp2 => ?_⟩
    have g : ∀ x ∈ a.kind :: a.nums.map fun i => Str.ofString (toString i), Good 6 x := by
      intro x hx
      rcases List.mem_cons.mp hx with rfl | hx
      · exact good_kind a
      · obtain ⟨i, hi, rfl⟩ := List.mem_map.mp hx
        have hb := nums_good ok i hi
        exact good_mono (good_num hb.1 hb.2) (by decide)
    have gs := sum_le_of g
    have gj := good_join (sep := " ") ⟨by decide, by decide +kernel⟩ g
    have gl : (a.kind :: a.nums.map fun i => Str.ofString (toString i)).length ≤ 3 := by
      rw [List.length_cons, List.length_map]
      omega
    refine ⟨_, p2, a.kind :: a.nums.map fun i => Str.ofString (toString i), rfl, rfl, .inl (SqL.of upd_same), ?_, ?_⟩
    · have e1 : (" " : Str).length = 1 := rfl
      rw [e1]
      exact Nat.le_trans (Nat.add_le_add gs (Nat.le_of_eq (Nat.mul_one _))) (by omega)
    · exact k _ _ (good_mono gj (by omega)) (fun x o e => up hp2 _ _ (hs _ _ (s2 _ _ e)))
end
def spLLines (K : PySem.W.Frag) : Sp := fun vs H Q _ => ∃ (l : Addr) (xs : List V) (ws : List Wr) (b : Int), vs = [.ref l, .int b] ∧ H l = some (.lst xs) ∧ TagsAt H xs ws ∧ (∀ a ∈ ws, a.ok) ∧ ws.length ≤ 7 ∧ 2 ≤ b ∧ b ≤ 256 ∧ ∀ s H', Good 200 s → (TL.tl s)[0]? = some 98 → Same H H' → Q (.str s) H'
section
variable {P : Program} {w : World} {K : PySem.W.Frag} {mg : Str → Option Value} {base : Heap}
theorem ok_L_lines (T : Tx w K mg) : Prom P w K mg base CX0 2 "_law_lines" s_L_lines ["_law_tags_here", "_law_b"] (spLLines K) := by
  refine Prom.of T.d_L_lines sc_L_lines (fun vs H Q E h => ?_) (fun _ _ _ _ _ _ us hl => match us, hl with | [_, _], _ => rfl) (fun f cdv A outer s H vs Q E hr h => ?_)
  · obtain ⟨l, xs, ws, b, rfl, _⟩ := h
    rfl
  · obtain ⟨l, xs, ws, b, rfl, hl, ht, ok, w7, b0, b1, k⟩ := h
    refine ⟨_, (pss_one (ps_ret (pe_join pe_str (pe_op op_cat (pe_lst (pa_cons (pe_op op_add_str pe_str (pe_callTy call_str_int (by rfl) T.b_str (by decide +kernel) (pa_cons (pv 1) pa_nil))) pa_nil)) (pe_lc (own := [("_law_tag", 2)]) (g := (gName 2)) (tt := tYes) (by rfl) sc_L_lines.nd (pi_list (pv 0)) (blkOk_by (own := [("_law_tag", 2)]) (N := ["_law_tags_here", "_law_b", "_law_tag"]) (sc := defScope s_L_lines) (by decide +kernel)) (fun _ _ _ _ _ => (pg_name (i := 2) sc_L_lines.nd rfl (Or.inl rfl))) (fun _ _ _ _ _ => pts_nil) (fun _ _ _ _ _ => (pe_callP (ok_L_words T) (hr.mono (by decide)) (by rfl) pass0 (pa_cons (pv 2) pa_nil)))))))), ?_⟩
    have lg : b.natAbs.log2 < 1920 := log2_any (by omega) (by omega)
    have gb := good_num (i := b) (by omega) (by omega)
    repeat (first | (refine And.intro ?_ ?_; · (first | exact rfl | (show (_ : Int) ≤ _; omega) | (show (_ : Int) < _; omega) | assumption | exact SqL.of upd_same | exact SqT.of upd_same | exact upd_same | exact Drew.at_ (by assumption) | exact at_of (j := 0) rfl rfl | exact at_of (j := 1) rfl rfl | exact at_of (j := 2) rfl rfl | exact at_of (j := 3) rfl rfl | exact .inr (by assumption) | exact .inl (by assumption) | exact .ty _ | exact dp_ty (by assumption) | exact kit_strD _ | exact kit_tupD _ | exact kit_intD _ | exact kit_boolD _ | exact ⟨_, rfl⟩ | decide | omega | exact (show 0 ≤ sizeLine by decide) | exact (show 1 ≤ sizeLine by decide) | exact (show 2 ≤ sizeLine by decide) | exact (show 3 ≤ sizeLine by decide) | exact (show 4 ≤ sizeLine by decide) | exact (show 5 ≤ sizeLine by decide) | exact (show 6 ≤ sizeLine by decide) | decide +kernel)) | apply Exists.intro | refine iteT ?_ | refine iteF ?_)
    refine ⟨sz (Nat.le_trans (Nat.add_le_add (show 5 ≤ 5 by decide) gb.1) (by decide)), ?_⟩
    repeat (first | (refine And.intro ?_ ?_; · (first | exact rfl | (show (_ : Int) ≤ _; omega) | (show (_ : Int) < _; omega) | assumption | exact SqL.of upd_same | exact SqT.of upd_same | exact upd_same | exact Drew.at_ (by assumption) | exact at_of (j := 0) rfl rfl | exact at_of (j := 1) rfl rfl | exact at_of (j := 2) rfl rfl | exact at_of (j := 3) rfl rfl | exact .inr (by assumption) | exact .inl (by assumption) | exact .ty _ | exact dp_ty (by assumption) | exact kit_strD _ | exact kit_tupD _ | exact kit_intD _ | exact kit_boolD _ | exact ⟨_, rfl⟩ | decide | omega | exact (show 0 ≤ sizeLine by decide) | exact (show 1 ≤ sizeLine by decide) | exact (show 2 ≤ sizeLine by decide) | exact (show 3 ≤ sizeLine by decide) | exact (show 4 ≤ sizeLine by decide) | exact (show 5 ≤ sizeLine by decide) | exact (show 6 ≤ sizeLine by decide) | decide +kernel)) | apply Exists.intro | refine iteT ?_ | refine iteF ?_)
    intro p hp
    have f0 : (TL.tl (("base " : Str) ++ Str.ofString (toString b)))[0]? = some 98 := by
      rw [TL.tl_append]
      rfl
    have g0 : Good 10 ("base " ++ Str.ofString (toString b)) := good_app (m := 5) (n := 5) ⟨by decide, by decide +kernel⟩ gb
    generalize ("base " : Str) ++ Str.ofString (toString b) = r0 at *
    have s1 : Same H (upd H p (.lst [.str r0])) := up hp
    have gp : upd H p (.lst [.str r0]) p = some (.lst [.str r0]) := upd_same
    have gl := s1 _ _ hl
    have ht1 := ht.same s1
    generalize upd H p (.lst [.str r0]) = H1 at *
    refine ⟨_, rfl, l, rfl, ⟨_, SqL.of gl⟩, fun D hD => ?_⟩
    refine lc_list (K := K) (a := l) (xs := xs) (Pv := fun j H' => Same H1 H' ∧ ∃ zs : List Str, H' D = some (.lst (zs.map V.str)) ∧ zs.length = j ∧ ∀ z ∈ zs, Good 21 z) ⟨up hD, [], upd_same, rfl, fun _ h => by cases h⟩ (fun j H' _ h => SqL.of (h.1 _ _ gl)) ?_ ?_
    · rintro j x H3 hj ⟨hs, zs, hd, zl, hz⟩
      obtain ⟨q, a, rfl, ha, hq⟩ := (ht1.same hs).get hj
      have aok := ok a (List.mem_of_getElem? ha)
      have jl : j < xs.length := by
        rcases List.getElem?_eq_some_iff.mp hj with ⟨x, _⟩
        exact x
      have xl := ht.len
      refine ⟨rfl, ?_⟩
      repeat (first | (refine And.intro ?_ ?_; · (first | exact rfl | (show (_ : Int) ≤ _; omega) | (show (_ : Int) < _; omega) | assumption | exact SqL.of upd_same | exact SqT.of upd_same | exact upd_same | exact Drew.at_ (by assumption) | exact at_of (j := 0) rfl rfl | exact at_of (j := 1) rfl rfl | exact at_of (j := 2) rfl rfl | exact at_of (j := 3) rfl rfl | exact .inr (by assumption) | exact .inl (by assumption) | exact .ty _ | exact dp_ty (by assumption) | exact kit_strD _ | exact kit_tupD _ | exact kit_intD _ | exact kit_boolD _ | exact ⟨_, rfl⟩ | decide | omega | exact (show 0 ≤ sizeLine by decide) | exact (show 1 ≤ sizeLine by decide) | exact (show 2 ≤ sizeLine by decide) | exact (show 3 ≤ sizeLine by decide) | exact (show 4 ≤ sizeLine by decide) | exact (show 5 ≤ sizeLine by decide) | exact (show 6 ≤ sizeLine by decide) | decide +kernel)) | apply Exists.intro | refine iteT ?_ | refine iteF ?_)
      intro s H4 gs s4
      refine ⟨_, s4 _ _ hd, ?_, fun x o e => ?_, zs ++ [s], ?_, ?_, ?_⟩
      · rw [List.length_map, sizeLine_eq]
        omega
      · rw [upd_ne (ne_of_none e hD)]
        exact s4 _ _ (hs _ _ e)
      · rw [upd_same, List.map_append]
        rfl
      · rw [List.length_append, zl]
        rfl
      · intro z hz2
        rcases List.mem_append.mp hz2 with h | h
        · exact hz z h
        · rw [List.mem_singleton.mp h]
          exact gs
    rintro H3 ⟨hs, zs, hd, zl, hz⟩
    have gp3 := hs _ _ gp
    have xl := ht.len
    repeat (first | (refine And.intro ?_ ?_; · (first | exact rfl | (show (_ : Int) ≤ _; omega) | (show (_ : Int) < _; omega) | assumption | exact SqL.of upd_same | exact SqT.of upd_same | exact upd_same | exact Drew.at_ (by assumption) | exact at_of (j := 0) rfl rfl | exact at_of (j := 1) rfl rfl | exact at_of (j := 2) rfl rfl | exact at_of (j := 3) rfl rfl | exact .inr (by assumption) | exact .inl (by assumption) | exact .ty _ | exact dp_ty (by assumption) | exact kit_strD _ | exact kit_tupD _ | exact kit_intD _ | exact kit_boolD _ | exact ⟨_, rfl⟩ | decide | omega | exact (show 0 ≤ sizeLine by decide) | exact (show 1 ≤ sizeLine by decide) | exact (show 2 ≤ sizeLine by decide) | exact (show 3 ≤ sizeLine by decide) | exact (show 4 ≤ sizeLine by decide) | exact (show 5 ≤ sizeLine by decide) | exact (show 6 ≤ sizeLine by decide) | decide +kernel)) | apply Exists.intro | refine iteT ?_ | refine iteF ?_)
    refine ⟨sz (by rw [List.length_map]; show 1 + _ ≤ 5000; omega), fun p2 hp2 => ?_⟩
    have g : ∀ x ∈ r0 :: zs, Good 21 x := by
      intro x hx
      rcases List.mem_cons.mp hx with rfl | hx
      · exact good_mono g0 (by decide)
      · exact hz x hx
    have gs := sum_le_of g
    have gj := good_join (sep := "\n") ⟨by decide, by decide +kernel⟩ g
    have gl : (r0 :: zs).length ≤ 8 := by
      rw [List.length_cons]
      omega
    refine ⟨_, p2, r0 :: zs, rfl, rfl, .inl (SqL.of upd_same), ?_, ?_⟩
    · have e1 : ("\n" : Str).length = 1 := rfl
      rw [e1]
      exact Nat.le_trans (Nat.add_le_add gs (Nat.le_of_eq (Nat.mul_one _))) (by omega)
    · refine k _ _ (good_mono gj (by omega)) ?_ (fun x o e => up hp2 _ _ (hs _ _ (s1 _ _ e)))
      rw [TL.join_eq, TL.tl_join]
      cases zs with
      | nil => exact f0
      | cons z zs =>
        show (TL.tl r0 ++ _)[0]? = some 98
        rw [List.getElem?_append_left (by
          rcases List.getElem?_eq_some_iff.mp f0 with ⟨h, _⟩
          exact h)]
        exact f0
end
/-! ### wraps like some others -/
def spLTags : Sp := fun vs H Q _ => ∃ (p : Addr) (n : Int), vs = [.ref p, .int n] ∧ PurseAt H p ∧ 0 ≤ n ∧ n ≤ 6 ∧ ∀ l xs ws H', Drew p H H' → H l = none → H' l = some (.lst xs) → TagsAt H' xs ws → (∀ a ∈ ws, a.ok) → (ws.length : Int) = n → Q (.ref l) H'
section
variable {P : Program} {w : World} {K : PySem.W.Frag} {mg : Str → Option Value} {base : Heap}
theorem ok_L_tags (T : Tx w K mg) : Prom P w K mg base CX0 4 "_law_tags" s_L_tags ["_law_pool_here", "_law_many"] spLTags := by
  refine Prom.of T.d_L_tags sc_L_tags (fun vs H Q E h => ?_) (fun _ _ _ _ _ _ us hl => match us, hl with | [_, _], _ => rfl) (fun f cdv A outer s H vs Q E hr h => ?_)
  · obtain ⟨p, n, rfl, _⟩ := h
    rfl
  · obtain ⟨p, n, rfl, hp, n0, n1, k⟩ := h
    refine ⟨_, (pss_cons (ps_set (i := 2) sc_L_tags.nd rfl (Or.inl rfl) (pe_lst pa_nil))
      (pss_cons (ps_for PassesOwn.never (by rfl) (pi_range1 (by rfl) T.b_range (pa_cons (pv 1) pa_nil)) (pg_name (i := 3) sc_L_tags.nd rfl (Or.inl rfl)) (pss_one (ps_expr (pe_bm PySem.F.plainAttrs_list PySem.F.slot_list_append PySem.F.type_list_append mt_append (pv 2) (pa_cons (pe_callP (ok_L_wrap T) (hr.mono (by decide)) (by rfl) pass0 (pa_cons (pv 0) (pa_cons (pe_op op_fdiv pe_int (pe_callP (ok_L_fine T) (hr.mono (by decide)) (by rfl) pass0 (pa_cons (pv 2) pa_nil))) pa_nil))) pa_nil)))))
      (pss_one (ps_ret (pv 2))))), ?_⟩
    repeat (first | (refine And.intro ?_ ?_; · (first | exact rfl | (show (_ : Int) ≤ _; omega) | (show (_ : Int) < _; omega) | assumption | exact SqL.of upd_same | exact SqT.of upd_same | exact upd_same | exact Drew.at_ (by assumption) | exact at_of (j := 0) rfl rfl | exact at_of (j := 1) rfl rfl | exact at_of (j := 2) rfl rfl | exact at_of (j := 3) rfl rfl | exact .inr (by assumption) | exact .inl (by assumption) | exact .ty _ | exact dp_ty (by assumption) | exact kit_strD _ | exact kit_tupD _ | exact kit_intD _ | exact kit_boolD _ | exact ⟨_, rfl⟩ | decide | omega | exact (show 0 ≤ sizeLine by decide) | exact (show 1 ≤ sizeLine by decide) | exact (show 2 ≤ sizeLine by decide) | exact (show 3 ≤ sizeLine by decide) | exact (show 4 ≤ sizeLine by decide) | exact (show 5 ≤ sizeLine by decide) | exact (show 6 ≤ sizeLine by decide) | decide +kernel)) | apply Exists.intro | refine iteT ?_ | refine iteF ?_)
    intro l hl
    have d1 := (Drew.refl hp).new (o := .lst []) hl
    have gl : upd H l (.lst []) l = some (.lst []) := upd_same
    have np : l ≠ p := PurseAt.ne hp hl
    generalize upd H l (.lst []) = H1 at *
    refine ⟨_, rfl, _, rfl, by omega, by omega, for_range (lo := 0) (fun i σ H' => Drew p H H' ∧ ∃ (xs : List V) (ws : List Wr) (v : Option V), H' l = some (.lst xs) ∧ TagsAt H' xs ws ∧ StkOk 2 ws ∧ ws.length = i ∧ σ = [some (.ref p), some (.int n), some (.ref l), v]) ⟨d1, [], [], none, gl, .nil, ⟨by decide, by decide, fun _ h => (by cases h), by decide, by decide⟩, rfl, rfl⟩ ?_ ?_⟩
    · rintro i σ H2 hi ⟨d2, xs, ws, v, hx, ht, so, wl, rfl⟩
      have fp : 1 ≤ fineL ws := fine_pos (ws := ws) so.ok (p := 1) (by decide)
      have fi := so.fine
      have wok := so.ok
      repeat (first | (refine And.intro ?_ ?_; · (first | exact rfl | (show (_ : Int) ≤ _; omega) | (show (_ : Int) < _; omega) | assumption | exact SqL.of upd_same | exact SqT.of upd_same | exact upd_same | exact Drew.at_ (by assumption) | exact at_of (j := 0) rfl rfl | exact at_of (j := 1) rfl rfl | exact at_of (j := 2) rfl rfl | exact at_of (j := 3) rfl rfl | exact .inr (by assumption) | exact .inl (by assumption) | exact .ty _ | exact dp_ty (by assumption) | exact kit_strD _ | exact kit_tupD _ | exact kit_intD _ | exact kit_boolD _ | exact ⟨_, rfl⟩ | decide | omega | exact (show 0 ≤ sizeLine by decide) | exact (show 1 ≤ sizeLine by decide) | exact (show 2 ≤ sizeLine by decide) | exact (show 3 ≤ sizeLine by decide) | exact (show 4 ≤ sizeLine by decide) | exact (show 5 ≤ sizeLine by decide) | exact (show 6 ≤ sizeLine by decide) | decide +kernel)) | apply Exists.intro | refine iteT ?_ | refine iteF ?_)
      refine ⟨.inl ⟨rfl, _, SqL.of hx⟩, ?_⟩
      repeat (first | (refine And.intro ?_ ?_; · (first | exact rfl | (show (_ : Int) ≤ _; omega) | (show (_ : Int) < _; omega) | assumption | exact SqL.of upd_same | exact SqT.of upd_same | exact upd_same | exact Drew.at_ (by assumption) | exact at_of (j := 0) rfl rfl | exact at_of (j := 1) rfl rfl | exact at_of (j := 2) rfl rfl | exact at_of (j := 3) rfl rfl | exact .inr (by assumption) | exact .inl (by assumption) | exact .ty _ | exact dp_ty (by assumption) | exact kit_strD _ | exact kit_tupD _ | exact kit_intD _ | exact kit_boolD _ | exact ⟨_, rfl⟩ | decide | omega | exact (show 0 ≤ sizeLine by decide) | exact (show 1 ≤ sizeLine by decide) | exact (show 2 ≤ sizeLine by decide) | exact (show 3 ≤ sizeLine by decide) | exact (show 4 ≤ sizeLine by decide) | exact (show 5 ≤ sizeLine by decide) | exact (show 6 ≤ sizeLine by decide) | decide +kernel)) | apply Exists.intro | refine iteT ?_ | refine iteF ?_)
      intro H3 s3
      have hp3 := (d2.same s3).at_
      have hx3 := s3 _ _ hx
      have q1 : 1 ≤ 120 / fineL ws := Int.le_ediv_of_mul_le (by omega) (by omega)
      have q2 : 120 / fineL ws ≤ 120 := Int.ediv_le_self _ (by decide)
      have cd : CDiv 120 (fineL ws) := ⟨by omega, by omega⟩
      repeat (first | (refine And.intro ?_ ?_; · (first | exact rfl | (show (_ : Int) ≤ _; omega) | (show (_ : Int) < _; omega) | assumption | exact SqL.of upd_same | exact SqT.of upd_same | exact upd_same | exact Drew.at_ (by assumption) | exact at_of (j := 0) rfl rfl | exact at_of (j := 1) rfl rfl | exact at_of (j := 2) rfl rfl | exact at_of (j := 3) rfl rfl | exact .inr (by assumption) | exact .inl (by assumption) | exact .ty _ | exact dp_ty (by assumption) | exact kit_strD _ | exact kit_tupD _ | exact kit_intD _ | exact kit_boolD _ | exact ⟨_, rfl⟩ | decide | omega | exact (show 0 ≤ sizeLine by decide) | exact (show 1 ≤ sizeLine by decide) | exact (show 2 ≤ sizeLine by decide) | exact (show 3 ≤ sizeLine by decide) | exact (show 4 ≤ sizeLine by decide) | exact (show 5 ≤ sizeLine by decide) | exact (show 6 ≤ sizeLine by decide) | decide +kernel)) | apply Exists.intro | refine iteT ?_ | refine iteF ?_)
      intro q a H4 aok au q0 d4 ha
      have d24 := (d2.same s3).trans d4
      have hx4 := d4.kp l _ np hx3
      have so2 := wrap_room so (by omega) aok au
      repeat (first | (refine And.intro ?_ ?_; · (first | exact rfl | (show (_ : Int) ≤ _; omega) | (show (_ : Int) < _; omega) | assumption | exact SqL.of upd_same | exact SqT.of upd_same | exact upd_same | exact Drew.at_ (by assumption) | exact at_of (j := 0) rfl rfl | exact at_of (j := 1) rfl rfl | exact at_of (j := 2) rfl rfl | exact at_of (j := 3) rfl rfl | exact .inr (by assumption) | exact .inl (by assumption) | exact .ty _ | exact dp_ty (by assumption) | exact kit_strD _ | exact kit_tupD _ | exact kit_intD _ | exact kit_boolD _ | exact ⟨_, rfl⟩ | decide | omega | exact (show 0 ≤ sizeLine by decide) | exact (show 1 ≤ sizeLine by decide) | exact (show 2 ≤ sizeLine by decide) | exact (show 3 ≤ sizeLine by decide) | exact (show 4 ≤ sizeLine by decide) | exact (show 5 ≤ sizeLine by decide) | exact (show 6 ≤ sizeLine by decide) | decide +kernel)) | apply Exists.intro | refine iteT ?_ | refine iteF ?_)
      have xl := ht.len
      refine ⟨by rw [sizeLine_eq]; omega, ?_⟩
      refine ⟨d24.put hl np, _, ws ++ [a], _, upd_same, TagsAt.snoc ((Drew.tags d4 hp3 (ht.same s3)).put hx4) ?_, so2, by rw [List.length_append, wl]; rfl, rfl⟩
      show upd H4 l _ q = _
      rw [upd_ne (fun e => by
        have ha : H4 q = _ := ha
        rw [e, hx4] at ha
        cases ha)]
      exact ha
    · rintro σ H2 ⟨d2, xs, ws, v, hx, ht, so, wl, rfl⟩
      repeat (first | (refine And.intro ?_ ?_; · (first | exact rfl | (show (_ : Int) ≤ _; omega) | (show (_ : Int) < _; omega) | assumption | exact SqL.of upd_same | exact SqT.of upd_same | exact upd_same | exact Drew.at_ (by assumption) | exact at_of (j := 0) rfl rfl | exact at_of (j := 1) rfl rfl | exact at_of (j := 2) rfl rfl | exact at_of (j := 3) rfl rfl | exact .inr (by assumption) | exact .inl (by assumption) | exact .ty _ | exact dp_ty (by assumption) | exact kit_strD _ | exact kit_tupD _ | exact kit_intD _ | exact kit_boolD _ | exact ⟨_, rfl⟩ | decide | omega | exact (show 0 ≤ sizeLine by decide) | exact (show 1 ≤ sizeLine by decide) | exact (show 2 ≤ sizeLine by decide) | exact (show 3 ≤ sizeLine by decide) | exact (show 4 ≤ sizeLine by decide) | exact (show 5 ≤ sizeLine by decide) | exact (show 6 ≤ sizeLine by decide) | decide +kernel)) | apply Exists.intro | refine iteT ?_ | refine iteF ?_)
      exact k _ _ _ _ d2 hl hx ht so.ok (by rw [wl]; simp; omega)
end
/-! ### the law's own reader of a claim "doubled" and its paper -/
def spLIs (K : PySem.W.Frag) : Sp := fun vs H Q _ => ∃ (v : V) (d : PyData) (m : Int), vs = [v, .int m] ∧ Dp K H v d ∧ Q (.bl (inR 0 m d)) H
section
variable {P : Program} {w : World} {K : PySem.W.Frag} {mg : Str → Option Value} {base : Heap}
theorem ok_L_is (T : Tx w K mg) : Prom P w K mg base CX0 1 "_law_is" s_L_is ["_law_thing", "_law_most"] (spLIs K) := by
  refine Prom.of T.d_L_is sc_L_is (fun vs H Q E h => ?_) (fun _ _ _ _ _ _ us hl => match us, hl with | [_, _], _ => rfl) (fun f cdv A outer s H vs Q E hr h => ?_)
  · obtain ⟨v, d, m, rfl, _⟩ := h
    rfl
  · obtain ⟨v, d, m, rfl, hd, k⟩ := h
    refine ⟨_, (pss_one (ps_ret (pe_and (pe_callB call_isi (by rfl) T.b_isinstance (by decide +kernel) (pa_cons (pv 0) (pa_cons (pe_bltn (v := .ty "int") (by rfl) T.b_int (by decide +kernel) rfl) pa_nil))) (pe_and (pe_not (pe_callB call_isi (by rfl) T.b_isinstance (by decide +kernel) (pa_cons (pv 0) (pa_cons (pe_bltn (v := .ty "bool") (by rfl) T.b_bool (by decide +kernel) rfl) pa_nil)))) (pe_one (pe_chain op_le op_le pe_int (pv 0) (pv 1))))))), ?_⟩
    cases hd with
    | int i =>
      refine ⟨_, rfl, _, _, _, _, true, rfl, .ty _, .base (.int _), kit_ty (by decide +kernel), true, rfl, iteT ?_⟩
      refine ⟨_, rfl, _, _, _, _, false, rfl, .ty _, .base (.int _), kit_ty (b := "bool") (by decide +kernel), false, rfl, true, rfl, iteT ?_⟩
      refine ⟨_, rfl, _, _, rfl, rfl, _, rfl, ifd (fun h1 => ?_) (fun h1 => ?_)⟩
      · refine ⟨_, rfl, _, _, rfl, rfl, ?_⟩
        show Q (.bl (decide (i ≤ m))) H
        have e : decide (i ≤ m) = decide (0 ≤ i ∧ i ≤ m) := by simp [h1]
        rw [e]
        exact k
      · show Q (.bl false) H
        have e : false = decide (0 ≤ i ∧ i ≤ m) := by simp [h1]
        rw [e]
        exact k
    | bl b =>
      refine ⟨_, rfl, _, _, _, _, true, rfl, .ty _, .base (.bl _), kit_ty (by decide +kernel), true, rfl, iteT ?_⟩
      exact ⟨_, rfl, _, _, _, _, true, rfl, .ty _, .base (.bl _), kit_ty (b := "bool") (by decide +kernel), true, rfl, false, rfl, iteF k⟩
    | non => exact ⟨_, rfl, _, _, _, _, false, rfl, .ty _, dp_ty .non, kit_ty (a := "NoneType") (by decide +kernel), false, rfl, iteF k⟩
    | str x => exact ⟨_, rfl, _, _, _, _, false, rfl, .ty _, dp_ty (.str x), kit_ty (a := "str") (by decide +kernel), false, rfl, iteF k⟩
    | lst h1 h2 => exact ⟨_, rfl, _, _, _, _, false, rfl, .ty _, dp_ty (.lst h1 h2), kit_ty (a := "list") (by decide +kernel), false, rfl, iteF k⟩
    | tup h1 h2 => exact ⟨_, rfl, _, _, _, _, false, rfl, .ty _, dp_ty (.tup h1 h2), kit_ty (a := "tuple") (by decide +kernel), false, rfl, iteF k⟩
end
/-! ### lists of integers, told from what repr shows -/
theorem tl_neg (n : Nat) : TL.tl (Str.ofString (toString (Int.negSucc n))) = 45 :: TL.numL (n + 1) := by
  have e : toString (Int.negSucc n) = "-" ++ toString (n + 1) := rfl
  show (Str.ofString (toString (Int.negSucc n))).cps.toList = _
  rw [e, signs_ofString, String.toList_append, List.map_append]
  have h := TL.tl_num (n + 1)
  have h : (Str.ofString (toString ((n + 1 : Nat) : Int))).cps.toList = TL.numL (n + 1) := h
  rw [signs_ofString] at h
  rw [show toString (n + 1) = toString ((n + 1 : Nat) : Int) from rfl, h]
  rfl
theorem tl_int (i : Int) : ∀ c ∈ TL.tl (Str.ofString (toString i)), c = 45 ∨ (48 ≤ c ∧ c ≤ 57) := by
  intro c hc
  cases i with
  | ofNat n =>
    have hc : c ∈ TL.tl (Str.ofString (toString ((n : Nat) : Int))) := hc
    rw [TL.tl_num] at hc
    exact .inr (TL.numL_digits n c hc)
  | negSucc n =>
    rw [tl_neg] at hc
    rcases List.mem_cons.mp hc with rfl | hc
    · exact .inl rfl
    · exact .inr (TL.numL_digits _ c hc)
theorem tl_int_ne (i : Int) : TL.tl (Str.ofString (toString i)) ≠ [] := by
  cases i with
  | ofNat n =>
    show TL.tl (Str.ofString (toString ((n : Nat) : Int))) ≠ []
    rw [TL.tl_num]
    exact TL.numL_ne n
  | negSucc n =>
    rw [tl_neg]
    simp
theorem int_text_inj {i j : Int} (h : TL.tl (Str.ofString (toString i)) = TL.tl (Str.ofString (toString j))) : i = j := by
  cases i with
  | ofNat m =>
    have h : TL.tl (Str.ofString (toString ((m : Nat) : Int))) = _ := h
    rw [TL.tl_num] at h
    cases j with
    | ofNat n =>
      have h : TL.numL m = TL.tl (Str.ofString (toString ((n : Nat) : Int))) := h
      rw [TL.tl_num] at h
      rw [TL.numL_inj h]
    | negSucc n =>
      rw [tl_neg] at h
      have := TL.numL_digits m 45 (by rw [h]; exact .head _)
      omega
  | negSucc m =>
    rw [tl_neg] at h
    cases j with
    | ofNat n =>
      have h : _ = TL.tl (Str.ofString (toString ((n : Nat) : Int))) := h
      rw [TL.tl_num] at h
      have := TL.numL_digits n 45 (by rw [← h]; exact .head _)
      omega
    | negSucc n =>
      rw [tl_neg] at h
      injection h with _ h
      have := TL.numL_inj h
      have : m = n := by omega
      rw [this]
/-- the elements of a page: an integer, its text, a tuple of it, None -/
def PgEl (d : PyData) : Prop := ∃ i : Int, -10 ^ 101 ≤ i ∧ i ≤ 10 ^ 101 ∧ (d = .int i ∨ d = .str (Str.ofString (toString i)) ∨ d = .tuple [.int i] ∨ d = .none)
theorem tl_list (ds : List PyData) : TL.tl (PyData.list ds).shown = 91 :: (TL.joinL [44, 32] ((PyData.shownAll ds).map TL.tl) ++ [93]) := by
  rw [PyData.shown_list, TL.tl_append, TL.tl_append, TL.tl_join]
  rfl
theorem joinL_sub {S : List Nat} {c : Nat} : ∀ {ps : List (List Nat)} {p : List Nat}, p ∈ ps → c ∈ p → c ∈ TL.joinL S ps
  | [q], p, hp, hc => by
    rw [List.mem_singleton.mp hp] at hc
    exact hc
  | q :: q2 :: r, p, hp, hc => by
    show c ∈ q ++ (S ++ TL.joinL S (q2 :: r))
    rcases List.mem_cons.mp hp with rfl | hp
    · exact List.mem_append_left _ hc
    · exact List.mem_append_right _ (List.mem_append_right _ (joinL_sub hp hc))
theorem shown_in {ds : List PyData} {d : PyData} (h : d ∈ ds) {c : Nat} (hc : c ∈ TL.tl d.shown) : c ∈ TL.tl (PyData.list ds).shown := by
  rw [tl_list]
  refine .tail _ (List.mem_append_left _ (joinL_sub (p := TL.tl d.shown) ?_ hc))
  have key : ∀ {ds : List PyData}, d ∈ ds → d.shown ∈ PyData.shownAll ds := fun {ds} h => by
    induction ds with
    | nil => cases h
    | cons x xs ih =>
      rw [PyData.shownAll_cons]
      rcases List.mem_cons.mp h with rfl | h
      · exact .head _
      · exact .tail _ (ih h)
  exact List.mem_map.mpr ⟨_, key h, rfl⟩
theorem shown_ints_mem {ns : List Int} {c : Nat} (hc : c ∈ TL.tl (PyData.list (ns.map PyData.int)).shown) : c = 91 ∨ c = 93 ∨ c = 44 ∨ c = 32 ∨ c = 45 ∨ (48 ≤ c ∧ c ≤ 57) := by
  rw [tl_list, PyData.shownAll_ints] at hc
  rcases List.mem_cons.mp hc with rfl | hc
  · exact .inl rfl
  rcases List.mem_append.mp hc with hc | hc
  · rcases joinL_mem2 hc with h | ⟨p, hp, h⟩
    · simp only [List.mem_cons, List.not_mem_nil, or_false] at h
      omega
    · obtain ⟨q, hq, rfl⟩ := List.mem_map.mp hp
      obtain ⟨i, _, rfl⟩ := List.mem_map.mp hq
      have := tl_int i c h
      omega
  · rw [List.mem_singleton.mp hc]
    exact .inr (.inl rfl)
theorem shown_ints_inj {ms ns : List Int} (h : (PyData.list (ms.map PyData.int)).shown = (PyData.list (ns.map PyData.int)).shown) : ms = ns := by
  have h := congrArg TL.tl h
  rw [tl_list, tl_list, PyData.shownAll_ints, PyData.shownAll_ints] at h
  injection h with _ h
  have h := List.append_cancel_right h
  have nos : ∀ ks : List Int, ∀ p ∈ (ks.map fun n => ((toString n : String) : Str)).map TL.tl, (44 : Nat) ∉ p := fun ks p hp hm => by
    obtain ⟨q, hq, rfl⟩ := List.mem_map.mp hp
    obtain ⟨i, _, rfl⟩ := List.mem_map.mp hq
    have := tl_int i 44 hm
    omega
  have fst : ∀ {ks : List Int}, ks ≠ [] → TL.joinL [44, 32] ((ks.map fun n => ((toString n : String) : Str)).map TL.tl) ≠ [] := fun {ks} hk e => by
    cases ks with
    | nil => exact hk rfl
    | cons k ks =>
      obtain ⟨c, hc⟩ := List.exists_mem_of_ne_nil _ (tl_int_ne k)
      have := joinL_sub (S := [44, 32]) (ps := ((k :: ks).map fun n => ((toString n : String) : Str)).map TL.tl) (.head _) hc
      rw [e] at this
      cases this
  have inj : ∀ {ms ns : List Int}, (ms.map fun n => ((toString n : String) : Str)).map TL.tl = (ns.map fun n => ((toString n : String) : Str)).map TL.tl → ms = ns := fun {ms} => by
    induction ms with
    | nil =>
      intro ns e
      cases ns with
      | nil => rfl
      | cons _ _ => cases e
    | cons m ms ih =>
      intro ns e
      cases ns with
      | nil => cases e
      | cons n ns =>
        injection e with e1 e2
        rw [int_text_inj e1, ih e2]
  by_cases hm : ms = []
  · subst hm
    by_cases hn : ns = []
    · exact hn.symm
    · exact absurd h.symm (fst hn)
  by_cases hn : ns = []
  · subst hn
    exact absurd h (fst hm)
  have hj := fun (ks : List Int) (hk : ks ≠ []) => TL.spl_join (s := 44) (S := [32]) (parts := (ks.map fun n => ((toString n : String) : Str)).map TL.tl) (by cases ks with | nil => exact absurd rfl hk | cons _ _ => simp) (nos ks)
  have h1 := hj ms hm
  rw [h] at h1
  exact inj (h1.symm.trans (hj ns hn))
/-! ### pages: what repr shows of them -/
structure ElSho (d : PyData) (n : Nat) : Prop where
  show_ : d.showable = true
  no : d.hasDict = false
  deep : d.depth ≤ 1
  len : d.shown.length ≤ n
theorem el_sho {d : PyData} (h : PgEl d) : ElSho d 1100 := by
  obtain ⟨i, i0, i1, h⟩ := h
  have lg : i.natAbs.log2 < 1920 := by
    have h3 : i.natAbs < 2 ^ 400 := Nat.lt_of_le_of_lt (show i.natAbs ≤ 10 ^ 101 by omega) (by decide)
    exact Nat.lt_of_lt_of_le (PySem.Flt.log2_lt_of (by decide) h3) (by decide)
  have ln : (Str.ofString (toString i)).length ≤ 103 := by
    have h := int_text_length_le10 (a := i) (k := 102) (by decide) (Nat.lt_of_le_of_lt (show i.natAbs ≤ 10 ^ 101 by omega) (by decide))
    rw [PySem.ofString_length]
    omega
  rcases h with rfl | rfl | rfl | rfl
  · exact ⟨decide_eq_true lg, rfl, by simp [PyData.depth], by
      show (PyData.int i).shown.length ≤ 1100
      simp only [PyData.shown]
      omega⟩
  · refine ⟨rfl, rfl, by simp [PyData.depth], ?_⟩
    have h2 := StrLaws.reprText_len (Str.ofString (toString i)) (fun c hc => by
      have := tl_int i c hc
      have : c < 58 := by omega
      exact Nat.lt_of_lt_of_le this (by decide))
    simp only [PyData.shown]
    omega
  · refine ⟨?_, rfl, by simp [PyData.depth, PyData.depthAll], ?_⟩
    · simp only [PyData.showable, PyData.showableAll, Bool.and_true]
      exact decide_eq_true lg
    · rw [PyData.shown_tuple, app_len, app_len]
      have e : PyData.shownAll [PyData.int i] = [((toString i : String) : Str)] := PyData.shownAll_ints [i]
      rw [e]
      have h4 : (Str.join ", " [((toString i : String) : Str)]).length = (Str.ofString (toString i)).length := rfl
      rw [h4]
      have h5 : ((if ([PyData.int i].length == 1) = true then ",)" else ")" : String) : Str).length = 2 := rfl
      rw [h5]
      have h6 : ("(" : Str).length = 1 := rfl
      omega
  · exact ⟨rfl, rfl, by simp [PyData.depth], by decide⟩
theorem el_odd {d : PyData} (h : PgEl d) : (∃ i, d = .int i) ∨ ∃ c ∈ TL.tl d.shown, c = 39 ∨ c = 34 ∨ c = 40 ∨ c = 78 := by
  obtain ⟨i, i0, i1, h⟩ := h
  rcases h with rfl | rfl | rfl | rfl
  · exact .inl ⟨i, rfl⟩
  · refine .inr ⟨reprQuote (Str.ofString (toString i)), ?_, ?_⟩
    · show _ ∈ (PyData.str _).shown.cps.toList
      simp only [PyData.shown, reprText, Array.toList_push]
      exact List.mem_append_right _ (.head _)
    · unfold reprQuote
      split <;> simp
  · refine .inr ⟨40, ?_, by simp⟩
    rw [PyData.shown_tuple, TL.tl_append, TL.tl_append]
    exact .head _
  · exact .inr ⟨78, by decide +kernel, by simp⟩
theorem els_ints : ∀ {ds : List PyData}, (∀ d ∈ ds, ∃ i, d = .int i) → ∃ ns : List Int, ds = ns.map PyData.int
  | [], _ => ⟨[], rfl⟩
  | d :: ds, h => by
    obtain ⟨i, rfl⟩ := h d (.head _)
    obtain ⟨ns, rfl⟩ := els_ints fun x hx => h x (.tail _ hx)
    exact ⟨i :: ns, rfl⟩
theorem page_inj {ds : List PyData} {ns : List Int} (h : ∀ d ∈ ds, PgEl d) (e : (PyData.list ds).shown = (PyData.list (ns.map PyData.int)).shown) : ds = ns.map PyData.int := by
  have all : ∀ d ∈ ds, ∃ i, d = .int i := fun d hd => by
    rcases el_odd (h d hd) with z | ⟨c, hc, z⟩
    · exact z
    · have := shown_ints_mem (e ▸ shown_in hd hc)
      omega
  obtain ⟨ms, rfl⟩ := els_ints all
  rw [shown_ints_inj e]
theorem join_le {n : Nat} : ∀ {ts : List Str}, (∀ t ∈ ts, t.length ≤ n) → (Str.join ", " ts).length ≤ (n + 2) * ts.length
  | ts, h => by
    have h1 := StrLaws.join_length_le ", " ts
    have h2 : (ts.map (·.length)).sum ≤ n * ts.length := by
      clear h1
      induction ts with
      | nil => exact Nat.zero_le _
      | cons t ts ih =>
        have a := h t (.head _)
        have b := ih fun x hx => h x (.tail _ hx)
        simp only [List.map_cons, List.sum_cons, List.length_cons, Nat.mul_add]
        omega
    have h3 : (", " : Str).length = 2 := rfl
    rw [h3] at h1
    rw [Nat.add_mul]
    omega
theorem page_sho {ds : List PyData} (h : ∀ d ∈ ds, PgEl d) (hl : ds.length ≤ 10) : (PyData.list ds).showable = true ∧ (PyData.list ds).hasDict = false ∧ (PyData.list ds).depth ≤ 40 ∧ (PyData.list ds).shown.length ≤ sizeLine := by
  have key : ∀ {ds : List PyData}, (∀ d ∈ ds, PgEl d) → PyData.showableAll ds = true ∧ PyData.hasDictAll ds = false ∧ PyData.depthAll ds ≤ 1 ∧ ∀ t ∈ PyData.shownAll ds, t.length ≤ 1100 := fun {ds} h => by
    induction ds with
    | nil => exact ⟨rfl, rfl, Nat.zero_le _, fun t ht => by cases ht⟩
    | cons d ds ih =>
      obtain ⟨a1, a2, a3, a4⟩ := ih fun x hx => h x (.tail _ hx)
      obtain ⟨b1, b2, b3, b4⟩ := el_sho (h d (.head _))
      refine ⟨?_, ?_, ?_, ?_⟩
      · simp only [PyData.showableAll, a1, b1, Bool.and_self]
      · simp only [PyData.hasDictAll, a2, b2, Bool.or_self]
      · simp only [PyData.depthAll]
        omega
      · intro t ht
        rw [PyData.shownAll_cons] at ht
        rcases List.mem_cons.mp ht with rfl | ht
        · exact b4
        · exact a4 t ht
  obtain ⟨a1, a2, a3, a4⟩ := key h
  refine ⟨?_, ?_, ?_, ?_⟩
  · simp only [PyData.showable, a1]
  · simp only [PyData.hasDict, a2]
  · simp only [PyData.depth]
    omega
  · rw [PyData.shown_list, app_len, app_len]
    have h1 := join_le a4
    rw [PyData.shownAll_length] at h1
    have h2 : ("[" : Str).length = 1 := rfl
    have h3 : ("]" : Str).length = 1 := rfl
    refine Nat.le_trans (m := 20000) ?_ (by decide)
    omega
/-! ### the law's own reader of payload and missed -/
def HeadOk (d : PyData) : Prop := ∀ d0 d1 ds, d = .tuple (d0 :: d1 :: ds) → isStrD d1 = true → ∃ s, d0 = .str s
def LTexts (d : PyData) : Prop := ∀ ds, d = .tuple ds → ∀ x ∈ ds, ∀ s, x = .str s → s.length ≤ 640
def PageOk (e : PyData) : Prop := SeqAt.shaped e = true ∧ ∀ es, e = .tuple es → es.length ≤ 10 ∧ ∀ x ∈ es, PgEl x
noncomputable def longsL (b : Int) (ws : List Wr) (n : Int) : List Int := if n < 10 ^ 60 - 1 then [grS b ws n, grS b ws (n + 1)] else [grS b ws n]
def spTruth (K : PySem.W.Frag) : Sp := fun vs H Q _ => ∃ (v u : V) (d e : PyData), vs = [v, u] ∧ Dp K H v d ∧ Dp K H u e ∧ PageOk e ∧ HeadOk d ∧ LTexts d ∧ ∀ r H', (r = true ↔ HoldsM d e) → Same H H' → Q (.bl r) H'
section
variable {P : Program} {w : World} {K : PySem.W.Frag} {mg : Str → Option Value} {base : Heap}
theorem truth_c {f : Addr} {cdv : Value} {A : Around} {outer : List Env} {s : Shared} {H0 : Hp} {Q : VK} {E : XK} (T : Tx w K mg) (hr : Room 4 (A.deeper (envOfC "_law_truth" (defScope s_L_truth) s.heap.objs.size f cdv))) (hgd : (A.deeper (envOfC "_law_truth" (defScope s_L_truth) s.heap.objs.size f cdv)).guards = some []) :
    ∃ t, PSs (cxOf CX0 P w K mg base ["_law_claim_here", "_law_page_here", "_law_last", "_law_pile", "_law_some", "_law_b", "_law_tags_here", "_law_n", "_law_longs"] "_law_truth" (defScope s_L_truth) f cdv A outer s H0 E).nox ((defBody s_L_truth).drop 7) t ∧ ∀ (a q l : Addr) (u x0 x1 x2 : V) (xs : List V) (tx : Str) (e : PyData) (sm n b : Int) (ws : List Wr) (H : Hp),
      SqT K H a [x0, x1, x2, .int n] → Dp K H u e → PageOk e → H l = some (.lst xs) → TagsAt H xs ws → (∀ a ∈ ws, a.ok) → 2 ≤ b → b ≤ 256 → 0 ≤ n → n ≤ 10 ^ 60 - 1 → 0 ≤ sm → sm ≤ 10 ^ 60 - 1 → ws.length ≤ 6 → rdS tx = some (b, ws) →
      (∀ r H', (r = true ↔ PayP [.str tx, .int sm, .int n] e) → Same H H' → Q (.bl r) H') →
      t { nx := fun _ H' => Q .non H', rt := Q } [some (.ref a), some u, some (.int (10 ^ 60 - 1)), some (.ref q), some (.int sm), some (.int b), some (.ref l), none, none] H := by
  refine ⟨_, (pss_cons (ps_set (i := 7) sc_L_truth.nd rfl (Or.inl rfl) (pe_ix ix_tup (pv 0) pe_int (fun _ _ => rfl)))
      (pss_cons (ps_mid (ps_set (i := 8) sc_L_truth.nd rfl (Or.inl rfl) (pe_op op_cat (pe_lst (pa_cons (pe_callP (ok_L_long T) (hr.mono (by decide)) (by rfl) pass0 (pa_cons (pv 6) (pa_cons (pv 7) (pa_cons (pv 5) pa_nil)))) pa_nil)) (pe_ifExp (pt_cmp (pc_lt (pv 7) (pv 2))) (pe_lst (pa_cons (pe_callP (ok_L_long T) (hr.mono (by decide)) (by rfl) pass0 (pa_cons (pv 6) (pa_cons (pe_op op_add (pv 7) pe_int) (pa_cons (pv 5) pa_nil)))) pa_nil)) (pe_lst pa_nil)))))
      (pss_cons (ps_if (PW.pt (pw_or (pt_not (pt_val (pe_callB call_isi (by rfl) T.b_isinstance (by decide +kernel) (pa_cons (pv 1) (pa_cons (pe_bltn (v := .ty "tuple") (by rfl) T.b_tuple (by decide +kernel) rfl) pa_nil))))) (pw_or (pt_cmpR op_ne (pe_callB (cr_reprD hgd hr.units) (by rfl) T.b_repr (by decide +kernel) (pa_cons (pe_callTy call_list_of (by rfl) T.b_list (by decide +kernel) (pa_cons (pv 1) pa_nil)) pa_nil)) (pe_callB (cr_reprD hgd hr.units) (by rfl) T.b_repr (by decide +kernel) (pa_cons (pv 8) pa_nil)) (nomark _)) (pw_or1 (pt_cmp (pc_gt (pe_ix ix_list (pv 8) pe_int (fun _ _ => rfl)) (pv 4))))))) (pss_one (ps_ret pe_bl)) pss_nil)
      (pss_one (ps_ret (pe_or (pe_cmp (pc_eqI (pv 7) (pv 2))) (pe_one (pe_cmp (pc_gt (pe_ix ix_list (pv 8) pe_int (fun _ _ => rfl)) (pv 4)))))))))), ?_⟩
  intro a q l u x0 x1 x2 xs tx e sm n b ws H hS he hpg hl ht ok b0 b1 n0 n1 m0 m1 w6 er k
  have fin : ∀ H', Same H H' → ¬ PayP [.str tx, .int sm, .int n] e → Q (.bl false) H' := fun H' s n => k _ _ (nb n) s
  repeat (first | (refine And.intro ?_ ?_; · (first | exact rfl | (show (_ : Int) ≤ _; omega) | (show (_ : Int) < _; omega) | assumption | exact SqL.of upd_same | exact SqT.of upd_same | exact upd_same | exact Drew.at_ (by assumption) | exact at_of (j := 0) rfl rfl | exact at_of (j := 1) rfl rfl | exact at_of (j := 2) rfl rfl | exact at_of (j := 3) rfl rfl | exact .inr (by assumption) | exact .inl (by assumption) | exact .ty _ | exact dp_ty (by assumption) | exact kit_strD _ | exact kit_tupD _ | exact kit_intD _ | exact kit_boolD _ | exact ⟨_, rfl⟩ | decide | omega | exact (show 0 ≤ sizeLine by decide) | exact (show 1 ≤ sizeLine by decide) | exact (show 2 ≤ sizeLine by decide) | exact (show 3 ≤ sizeLine by decide) | exact (show 4 ≤ sizeLine by decide) | exact (show 5 ≤ sizeLine by decide) | exact (show 6 ≤ sizeLine by decide) | decide +kernel)) | apply Exists.intro | refine iteT ?_ | refine iteF ?_)
  refine ⟨fun σ' H' (hP : ∃ p3, Same H H' ∧ H' p3 = some (.lst ((longsL b ws n).map V.int)) ∧ σ' = [some (.ref a), some u, some (.int (10 ^ 60 - 1)), some (.ref q), some (.int sm), some (.int b), some (.ref l), some (.int n), some (.ref p3)]) => ?_, ?_⟩; rotate_left
  · repeat (first | (refine And.intro ?_ ?_; · (first | exact rfl | (show (_ : Int) ≤ _; omega) | (show (_ : Int) < _; omega) | assumption | exact SqL.of upd_same | exact SqT.of upd_same | exact upd_same | exact Drew.at_ (by assumption) | exact at_of (j := 0) rfl rfl | exact at_of (j := 1) rfl rfl | exact at_of (j := 2) rfl rfl | exact at_of (j := 3) rfl rfl | exact .inr (by assumption) | exact .inl (by assumption) | exact .ty _ | exact dp_ty (by assumption) | exact kit_strD _ | exact kit_tupD _ | exact kit_intD _ | exact kit_boolD _ | exact ⟨_, rfl⟩ | decide | omega | exact (show 0 ≤ sizeLine by decide) | exact (show 1 ≤ sizeLine by decide) | exact (show 2 ≤ sizeLine by decide) | exact (show 3 ≤ sizeLine by decide) | exact (show 4 ≤ sizeLine by decide) | exact (show 5 ≤ sizeLine by decide) | exact (show 6 ≤ sizeLine by decide) | decide +kernel)) | apply Exists.intro | refine iteT ?_ | refine iteF ?_)
    intro H1 s1
    repeat (first | (refine And.intro ?_ ?_; · (first | exact rfl | (show (_ : Int) ≤ _; omega) | (show (_ : Int) < _; omega) | assumption | exact SqL.of upd_same | exact SqT.of upd_same | exact upd_same | exact Drew.at_ (by assumption) | exact at_of (j := 0) rfl rfl | exact at_of (j := 1) rfl rfl | exact at_of (j := 2) rfl rfl | exact at_of (j := 3) rfl rfl | exact .inr (by assumption) | exact .inl (by assumption) | exact .ty _ | exact dp_ty (by assumption) | exact kit_strD _ | exact kit_tupD _ | exact kit_intD _ | exact kit_boolD _ | exact ⟨_, rfl⟩ | decide | omega | exact (show 0 ≤ sizeLine by decide) | exact (show 1 ≤ sizeLine by decide) | exact (show 2 ≤ sizeLine by decide) | exact (show 3 ≤ sizeLine by decide) | exact (show 4 ≤ sizeLine by decide) | exact (show 5 ≤ sizeLine by decide) | exact (show 6 ≤ sizeLine by decide) | decide +kernel)) | apply Exists.intro | refine iteT ?_ | refine iteF ?_)
    intro p1 hp1
    have zH2 : Same H1 (upd H1 p1 (.lst [.int (grS b ws n)])) := up hp1
    have sH2 : Same H (upd H1 p1 (.lst [.int (grS b ws n)])) := fun x o e => zH2 _ _ (s1 _ _ e)
    have gp1 : upd H1 p1 (.lst [.int (grS b ws n)]) p1 = some (.lst [.int (grS b ws n)]) := upd_same
    generalize upd H1 p1 (.lst [.int (grS b ws n)]) = H2 at *
    have hl2 := sH2 _ _ hl
    have ht2 := ht.same sH2
    have n3 : 0 ≤ n + 1 := by omega
    repeat (first | (refine And.intro ?_ ?_; · (first | exact rfl | (show (_ : Int) ≤ _; omega) | (show (_ : Int) < _; omega) | assumption | exact SqL.of upd_same | exact SqT.of upd_same | exact upd_same | exact Drew.at_ (by assumption) | exact at_of (j := 0) rfl rfl | exact at_of (j := 1) rfl rfl | exact at_of (j := 2) rfl rfl | exact at_of (j := 3) rfl rfl | exact .inr (by assumption) | exact .inl (by assumption) | exact .ty _ | exact dp_ty (by assumption) | exact kit_strD _ | exact kit_tupD _ | exact kit_intD _ | exact kit_boolD _ | exact ⟨_, rfl⟩ | decide | omega | exact (show 0 ≤ sizeLine by decide) | exact (show 1 ≤ sizeLine by decide) | exact (show 2 ≤ sizeLine by decide) | exact (show 3 ≤ sizeLine by decide) | exact (show 4 ≤ sizeLine by decide) | exact (show 5 ≤ sizeLine by decide) | exact (show 6 ≤ sizeLine by decide) | decide +kernel)) | apply Exists.intro | refine iteT ?_ | refine iteF ?_)
    refine ifd (fun c => ?_) (fun c => ?_)
    · repeat (first | (refine And.intro ?_ ?_; · (first | exact rfl | (show (_ : Int) ≤ _; omega) | (show (_ : Int) < _; omega) | assumption | exact SqL.of upd_same | exact SqT.of upd_same | exact upd_same | exact Drew.at_ (by assumption) | exact at_of (j := 0) rfl rfl | exact at_of (j := 1) rfl rfl | exact at_of (j := 2) rfl rfl | exact at_of (j := 3) rfl rfl | exact .inr (by assumption) | exact .inl (by assumption) | exact .ty _ | exact dp_ty (by assumption) | exact kit_strD _ | exact kit_tupD _ | exact kit_intD _ | exact kit_boolD _ | exact ⟨_, rfl⟩ | decide | omega | exact (show 0 ≤ sizeLine by decide) | exact (show 1 ≤ sizeLine by decide) | exact (show 2 ≤ sizeLine by decide) | exact (show 3 ≤ sizeLine by decide) | exact (show 4 ≤ sizeLine by decide) | exact (show 5 ≤ sizeLine by decide) | exact (show 6 ≤ sizeLine by decide) | decide +kernel)) | apply Exists.intro | refine iteT ?_ | refine iteF ?_)
      intro H3 s3
      have s03 : Same H H3 := fun x o e => s3 _ _ (sH2 _ _ e)
      have gp1 := s3 _ _ gp1
      repeat (first | (refine And.intro ?_ ?_; · (first | exact rfl | (show (_ : Int) ≤ _; omega) | (show (_ : Int) < _; omega) | assumption | exact SqL.of upd_same | exact SqT.of upd_same | exact upd_same | exact Drew.at_ (by assumption) | exact at_of (j := 0) rfl rfl | exact at_of (j := 1) rfl rfl | exact at_of (j := 2) rfl rfl | exact at_of (j := 3) rfl rfl | exact .inr (by assumption) | exact .inl (by assumption) | exact .ty _ | exact dp_ty (by assumption) | exact kit_strD _ | exact kit_tupD _ | exact kit_intD _ | exact kit_boolD _ | exact ⟨_, rfl⟩ | decide | omega | exact (show 0 ≤ sizeLine by decide) | exact (show 1 ≤ sizeLine by decide) | exact (show 2 ≤ sizeLine by decide) | exact (show 3 ≤ sizeLine by decide) | exact (show 4 ≤ sizeLine by decide) | exact (show 5 ≤ sizeLine by decide) | exact (show 6 ≤ sizeLine by decide) | decide +kernel)) | apply Exists.intro | refine iteT ?_ | refine iteF ?_)
      intro p2 hp2
      have zH4 : Same H3 (upd H3 p2 (.lst [.int (grS b ws (n + 1))])) := up hp2
      have sH4 : Same H (upd H3 p2 (.lst [.int (grS b ws (n + 1))])) := fun x o e => zH4 _ _ (s03 _ _ e)
      have gp2 : upd H3 p2 (.lst [.int (grS b ws (n + 1))]) p2 = some (.lst [.int (grS b ws (n + 1))]) := upd_same
      generalize upd H3 p2 (.lst [.int (grS b ws (n + 1))]) = H4 at *
      have gp1 := zH4 _ _ gp1
      repeat (first | (refine And.intro ?_ ?_; · (first | exact rfl | (show (_ : Int) ≤ _; omega) | (show (_ : Int) < _; omega) | assumption | exact SqL.of upd_same | exact SqT.of upd_same | exact upd_same | exact Drew.at_ (by assumption) | exact at_of (j := 0) rfl rfl | exact at_of (j := 1) rfl rfl | exact at_of (j := 2) rfl rfl | exact at_of (j := 3) rfl rfl | exact .inr (by assumption) | exact .inl (by assumption) | exact .ty _ | exact dp_ty (by assumption) | exact kit_strD _ | exact kit_tupD _ | exact kit_intD _ | exact kit_boolD _ | exact ⟨_, rfl⟩ | decide | omega | exact (show 0 ≤ sizeLine by decide) | exact (show 1 ≤ sizeLine by decide) | exact (show 2 ≤ sizeLine by decide) | exact (show 3 ≤ sizeLine by decide) | exact (show 4 ≤ sizeLine by decide) | exact (show 5 ≤ sizeLine by decide) | exact (show 6 ≤ sizeLine by decide) | decide +kernel)) | apply Exists.intro | refine iteT ?_ | refine iteF ?_)
      intro p3 hp3
      have c : n < 10 ^ 60 - 1 := c
      refine ⟨p3, fun x o e => up hp3 _ _ (sH4 _ _ e), ?_, rfl⟩
      rw [longsL, if_pos c]
      exact upd_same
    · repeat (first | (refine And.intro ?_ ?_; · (first | exact rfl | (show (_ : Int) ≤ _; omega) | (show (_ : Int) < _; omega) | assumption | exact SqL.of upd_same | exact SqT.of upd_same | exact upd_same | exact Drew.at_ (by assumption) | exact at_of (j := 0) rfl rfl | exact at_of (j := 1) rfl rfl | exact at_of (j := 2) rfl rfl | exact at_of (j := 3) rfl rfl | exact .inr (by assumption) | exact .inl (by assumption) | exact .ty _ | exact dp_ty (by assumption) | exact kit_strD _ | exact kit_tupD _ | exact kit_intD _ | exact kit_boolD _ | exact ⟨_, rfl⟩ | decide | omega | exact (show 0 ≤ sizeLine by decide) | exact (show 1 ≤ sizeLine by decide) | exact (show 2 ≤ sizeLine by decide) | exact (show 3 ≤ sizeLine by decide) | exact (show 4 ≤ sizeLine by decide) | exact (show 5 ≤ sizeLine by decide) | exact (show 6 ≤ sizeLine by decide) | decide +kernel)) | apply Exists.intro | refine iteT ?_ | refine iteF ?_)
      intro p2 hp2
      have zH4 : Same H2 (upd H2 p2 (.lst [])) := up hp2
      have sH4 : Same H (upd H2 p2 (.lst [])) := fun x o e => zH4 _ _ (sH2 _ _ e)
      have gp2 : upd H2 p2 (.lst []) p2 = some (.lst []) := upd_same
      generalize upd H2 p2 (.lst []) = H4 at *
      have gp1 := zH4 _ _ gp1
      repeat (first | (refine And.intro ?_ ?_; · (first | exact rfl | (show (_ : Int) ≤ _; omega) | (show (_ : Int) < _; omega) | assumption | exact SqL.of upd_same | exact SqT.of upd_same | exact upd_same | exact Drew.at_ (by assumption) | exact at_of (j := 0) rfl rfl | exact at_of (j := 1) rfl rfl | exact at_of (j := 2) rfl rfl | exact at_of (j := 3) rfl rfl | exact .inr (by assumption) | exact .inl (by assumption) | exact .ty _ | exact dp_ty (by assumption) | exact kit_strD _ | exact kit_tupD _ | exact kit_intD _ | exact kit_boolD _ | exact ⟨_, rfl⟩ | decide | omega | exact (show 0 ≤ sizeLine by decide) | exact (show 1 ≤ sizeLine by decide) | exact (show 2 ≤ sizeLine by decide) | exact (show 3 ≤ sizeLine by decide) | exact (show 4 ≤ sizeLine by decide) | exact (show 5 ≤ sizeLine by decide) | exact (show 6 ≤ sizeLine by decide) | decide +kernel)) | apply Exists.intro | refine iteT ?_ | refine iteF ?_)
      intro p3 hp3
      have c : ¬ n < 10 ^ 60 - 1 := c
      refine ⟨p3, fun x o e => up hp3 _ _ (sH4 _ _ e), ?_, rfl⟩
      rw [longsL, if_neg c]
      exact upd_same
  · obtain ⟨p3, s1, hp3, rfl⟩ := hP
    have he1 := Dp.same s1 he
    have payL : PayP [.str tx, .int sm, .int n] e → e = .tuple ((longsL b ws n).map PyData.int) ∧ grS b ws n ≤ sm := fun ⟨t', bd, n', b', ws', z, _, _, _, _, h4, h5, h6⟩ => by
      cases z
      have h4 : rdS tx = _ := h4
      rw [er] at h4
      cases h4
      refine ⟨?_, h5⟩
      rcases h6 with ⟨rfl, h6⟩ | ⟨h6, h7, _⟩
      · rw [longsL, if_neg (by omega)]
        exact h6
      · rw [longsL, if_pos (by omega)]
        exact h7
    repeat (first | (refine And.intro ?_ ?_; · (first | exact rfl | (show (_ : Int) ≤ _; omega) | (show (_ : Int) < _; omega) | assumption | exact SqL.of upd_same | exact SqT.of upd_same | exact upd_same | exact Drew.at_ (by assumption) | exact at_of (j := 0) rfl rfl | exact at_of (j := 1) rfl rfl | exact at_of (j := 2) rfl rfl | exact at_of (j := 3) rfl rfl | exact .inr (by assumption) | exact .inl (by assumption) | exact .ty _ | exact dp_ty (by assumption) | exact kit_strD _ | exact kit_tupD _ | exact kit_intD _ | exact kit_boolD _ | exact ⟨_, rfl⟩ | decide | omega | exact (show 0 ≤ sizeLine by decide) | exact (show 1 ≤ sizeLine by decide) | exact (show 2 ≤ sizeLine by decide) | exact (show 3 ≤ sizeLine by decide) | exact (show 4 ≤ sizeLine by decide) | exact (show 5 ≤ sizeLine by decide) | exact (show 6 ≤ sizeLine by decide) | decide +kernel)) | apply Exists.intro | refine iteT ?_ | refine iteF ?_)
    refine iteB (fun ct => ?_) (fun ct => ?_)
    · repeat (first | (refine And.intro ?_ ?_; · (first | exact rfl | (show (_ : Int) ≤ _; omega) | (show (_ : Int) < _; omega) | assumption | exact SqL.of upd_same | exact SqT.of upd_same | exact upd_same | exact Drew.at_ (by assumption) | exact at_of (j := 0) rfl rfl | exact at_of (j := 1) rfl rfl | exact at_of (j := 2) rfl rfl | exact at_of (j := 3) rfl rfl | exact .inr (by assumption) | exact .inl (by assumption) | exact .ty _ | exact dp_ty (by assumption) | exact kit_strD _ | exact kit_tupD _ | exact kit_intD _ | exact kit_boolD _ | exact ⟨_, rfl⟩ | decide | omega | exact (show 0 ≤ sizeLine by decide) | exact (show 1 ≤ sizeLine by decide) | exact (show 2 ≤ sizeLine by decide) | exact (show 3 ≤ sizeLine by decide) | exact (show 4 ≤ sizeLine by decide) | exact (show 5 ≤ sizeLine by decide) | exact (show 6 ≤ sizeLine by decide) | decide +kernel)) | apply Exists.intro | refine iteT ?_ | refine iteF ?_)
      refine fin _ s1 fun z => ?_
      rw [(payL z).1] at ct
      cases ct
    obtain ⟨es, rfl⟩ := tupD_of ct
    obtain ⟨p, ys, rfl, g1, g2⟩ : ∃ p ys, u = .ref p ∧ SqT K H' p ys ∧ DpAll K H' ys es := by
      cases he1 with
      | tup h1 h2 => exact ⟨_, _, rfl, h1, h2⟩
    obtain ⟨pl, pe⟩ := hpg.2 _ rfl
    repeat (first | (refine And.intro ?_ ?_; · (first | exact rfl | (show (_ : Int) ≤ _; omega) | (show (_ : Int) < _; omega) | assumption | exact SqL.of upd_same | exact SqT.of upd_same | exact upd_same | exact Drew.at_ (by assumption) | exact at_of (j := 0) rfl rfl | exact at_of (j := 1) rfl rfl | exact at_of (j := 2) rfl rfl | exact at_of (j := 3) rfl rfl | exact .inr (by assumption) | exact .inl (by assumption) | exact .ty _ | exact dp_ty (by assumption) | exact kit_strD _ | exact kit_tupD _ | exact kit_intD _ | exact kit_boolD _ | exact ⟨_, rfl⟩ | decide | omega | exact (show 0 ≤ sizeLine by decide) | exact (show 1 ≤ sizeLine by decide) | exact (show 2 ≤ sizeLine by decide) | exact (show 3 ≤ sizeLine by decide) | exact (show 4 ≤ sizeLine by decide) | exact (show 5 ≤ sizeLine by decide) | exact (show 6 ≤ sizeLine by decide) | decide +kernel)) | apply Exists.intro | refine iteT ?_ | refine iteF ?_)
    intro p4 hp4
    have zH5 : Same H' (upd H' p4 (.lst ys)) := up hp4
    have sH5 : Same H (upd H' p4 (.lst ys)) := fun x o e => zH5 _ _ (s1 _ _ e)
    have gp4 : upd H' p4 (.lst ys) p4 = some (.lst ys) := upd_same
    generalize upd H' p4 (.lst ys) = H5 at *
    have hp3 := zH5 _ _ hp3
    obtain ⟨e1, e2, e3, e4⟩ := page_sho pe pl
    refine ⟨p4, .list es, rfl, .lst (SqL.of gp4) (DpAll.same zH5 g2), e1, e2, e3, e4, ?_⟩
    have lok : ∀ d ∈ (longsL b ws n).map PyData.int, PgEl d := fun d hd => by
      obtain ⟨i, hi, rfl⟩ := List.mem_map.mp hd
      have p0 := grS_pow (b := b) b0 ws ok (k := 200) (by decide) n0 (Int.lt_of_le_of_lt n1 (by decide))
      have p1 := grS_pow (b := b) b0 ws ok (k := 200) (n := n + 1) (by decide) (by omega) (Int.lt_of_le_of_lt (show n + 1 ≤ 10 ^ 60 by omega) (by decide))
      have p2 : (2 : Int) ^ (200 + 8 * ws.length) ≤ 2 ^ 248 := pow_mono (by decide) (by omega)
      have p3 : (2 : Int) ^ 248 ≤ 10 ^ 101 := by decide
      refine ⟨i, ?_, ?_, .inl rfl⟩ <;> (unfold longsL at hi; split at hi <;> simp only [List.mem_cons, List.not_mem_nil, or_false] at hi <;> omega)
    have ll : ((longsL b ws n).map PyData.int).length ≤ 10 := by
      rw [List.length_map]
      unfold longsL
      split <;> simp
    obtain ⟨f1, f2, f3, f4⟩ := page_sho lok ll
    refine ⟨_, rfl, p3, .list ((longsL b ws n).map PyData.int), rfl, .lst (SqL.of hp3) (dp_ints _), f1, f2, f3, f4, ?_⟩
    repeat (first | (refine And.intro ?_ ?_; · (first | exact rfl | (show (_ : Int) ≤ _; omega) | (show (_ : Int) < _; omega) | assumption | exact SqL.of upd_same | exact SqT.of upd_same | exact upd_same | exact Drew.at_ (by assumption) | exact at_of (j := 0) rfl rfl | exact at_of (j := 1) rfl rfl | exact at_of (j := 2) rfl rfl | exact at_of (j := 3) rfl rfl | exact .inr (by assumption) | exact .inl (by assumption) | exact .ty _ | exact dp_ty (by assumption) | exact kit_strD _ | exact kit_tupD _ | exact kit_intD _ | exact kit_boolD _ | exact ⟨_, rfl⟩ | decide | omega | exact (show 0 ≤ sizeLine by decide) | exact (show 1 ≤ sizeLine by decide) | exact (show 2 ≤ sizeLine by decide) | exact (show 3 ≤ sizeLine by decide) | exact (show 4 ≤ sizeLine by decide) | exact (show 5 ≤ sizeLine by decide) | exact (show 6 ≤ sizeLine by decide) | decide +kernel)) | apply Exists.intro | refine iteT ?_ | refine iteF ?_)
    refine ifn (fun cn => ?_) (fun cn => ?_)
    · repeat (first | (refine And.intro ?_ ?_; · (first | exact rfl | (show (_ : Int) ≤ _; omega) | (show (_ : Int) < _; omega) | assumption | exact SqL.of upd_same | exact SqT.of upd_same | exact upd_same | exact Drew.at_ (by assumption) | exact at_of (j := 0) rfl rfl | exact at_of (j := 1) rfl rfl | exact at_of (j := 2) rfl rfl | exact at_of (j := 3) rfl rfl | exact .inr (by assumption) | exact .inl (by assumption) | exact .ty _ | exact dp_ty (by assumption) | exact kit_strD _ | exact kit_tupD _ | exact kit_intD _ | exact kit_boolD _ | exact ⟨_, rfl⟩ | decide | omega | exact (show 0 ≤ sizeLine by decide) | exact (show 1 ≤ sizeLine by decide) | exact (show 2 ≤ sizeLine by decide) | exact (show 3 ≤ sizeLine by decide) | exact (show 4 ≤ sizeLine by decide) | exact (show 5 ≤ sizeLine by decide) | exact (show 6 ≤ sizeLine by decide) | decide +kernel)) | apply Exists.intro | refine iteT ?_ | refine iteF ?_)
      refine fin _ sH5 fun z => cn ?_
      have z := (payL z).1
      injection z with z
      rw [z]
    have ez : es = (longsL b ws n).map PyData.int := page_inj pe (by injection cn)
    subst ez
    have h0 : atI ((longsL b ws n).map V.int) 0 = some (.int (grS b ws n)) := by
      unfold longsL
      split <;> rfl
    have hL5 : SqL K H5 p3 ((longsL b ws n).map V.int) := SqL.of hp3
    clear cn e1 e2 e3 e4 f1 f2 f3 f4 lok ll pe pl g1 g2
    repeat (first | (refine And.intro ?_ ?_; · (first | exact rfl | (show (_ : Int) ≤ _; omega) | (show (_ : Int) < _; omega) | assumption | exact SqL.of upd_same | exact SqT.of upd_same | exact upd_same | exact Drew.at_ (by assumption) | exact at_of (j := 0) rfl rfl | exact at_of (j := 1) rfl rfl | exact at_of (j := 2) rfl rfl | exact at_of (j := 3) rfl rfl | exact .inr (by assumption) | exact .inl (by assumption) | exact .ty _ | exact dp_ty (by assumption) | exact kit_strD _ | exact kit_tupD _ | exact kit_intD _ | exact kit_boolD _ | exact ⟨_, rfl⟩ | decide | omega | exact (show 0 ≤ sizeLine by decide) | exact (show 1 ≤ sizeLine by decide) | exact (show 2 ≤ sizeLine by decide) | exact (show 3 ≤ sizeLine by decide) | exact (show 4 ≤ sizeLine by decide) | exact (show 5 ≤ sizeLine by decide) | exact (show 6 ≤ sizeLine by decide) | decide +kernel)) | apply Exists.intro | refine iteT ?_ | refine iteF ?_)
    refine ifd (fun c1 => ?_) (fun c1 => ?_)
    · have c1 : grS b ws n > sm := c1
      repeat (first | (refine And.intro ?_ ?_; · (first | exact rfl | (show (_ : Int) ≤ _; omega) | (show (_ : Int) < _; omega) | assumption | exact SqL.of upd_same | exact SqT.of upd_same | exact upd_same | exact Drew.at_ (by assumption) | exact at_of (j := 0) rfl rfl | exact at_of (j := 1) rfl rfl | exact at_of (j := 2) rfl rfl | exact at_of (j := 3) rfl rfl | exact .inr (by assumption) | exact .inl (by assumption) | exact .ty _ | exact dp_ty (by assumption) | exact kit_strD _ | exact kit_tupD _ | exact kit_intD _ | exact kit_boolD _ | exact ⟨_, rfl⟩ | decide | omega | exact (show 0 ≤ sizeLine by decide) | exact (show 1 ≤ sizeLine by decide) | exact (show 2 ≤ sizeLine by decide) | exact (show 3 ≤ sizeLine by decide) | exact (show 4 ≤ sizeLine by decide) | exact (show 5 ≤ sizeLine by decide) | exact (show 6 ≤ sizeLine by decide) | decide +kernel)) | apply Exists.intro | refine iteT ?_ | refine iteF ?_)
      refine fin _ sH5 fun z => ?_
      have := (payL z).2
      omega
    have c1 : ¬ grS b ws n > sm := c1
    repeat (first | (refine And.intro ?_ ?_; · (first | exact rfl | (show (_ : Int) ≤ _; omega) | (show (_ : Int) < _; omega) | assumption | exact SqL.of upd_same | exact SqT.of upd_same | exact upd_same | exact Drew.at_ (by assumption) | exact at_of (j := 0) rfl rfl | exact at_of (j := 1) rfl rfl | exact at_of (j := 2) rfl rfl | exact at_of (j := 3) rfl rfl | exact .inr (by assumption) | exact .inl (by assumption) | exact .ty _ | exact dp_ty (by assumption) | exact kit_strD _ | exact kit_tupD _ | exact kit_intD _ | exact kit_boolD _ | exact ⟨_, rfl⟩ | decide | omega | exact (show 0 ≤ sizeLine by decide) | exact (show 1 ≤ sizeLine by decide) | exact (show 2 ≤ sizeLine by decide) | exact (show 3 ≤ sizeLine by decide) | exact (show 4 ≤ sizeLine by decide) | exact (show 5 ≤ sizeLine by decide) | exact (show 6 ≤ sizeLine by decide) | decide +kernel)) | apply Exists.intro | refine iteT ?_ | refine iteF ?_)
    refine ifd (fun c2 => ?_) (fun c2 => ?_)
    · have c2 : n = 10 ^ 60 - 1 := c2
      refine k _ _ ⟨fun _ => ⟨.str tx, sm, n, b, ws, rfl, m0, m1, n0, n1, er, by omega, .inl ⟨c2, ?_⟩⟩, fun _ => rfl⟩ sH5
      rw [longsL, if_neg (by omega)]
      rfl
    have c2 : ¬ n = 10 ^ 60 - 1 := c2
    have eL : longsL b ws n = [grS b ws n, grS b ws (n + 1)] := by rw [longsL, if_pos (by omega)]
    rw [eL] at hL5
    rw [eL] at k
    repeat (first | (refine And.intro ?_ ?_; · (first | exact rfl | (show (_ : Int) ≤ _; omega) | (show (_ : Int) < _; omega) | assumption | exact SqL.of upd_same | exact SqT.of upd_same | exact upd_same | exact Drew.at_ (by assumption) | exact at_of (j := 0) rfl rfl | exact at_of (j := 1) rfl rfl | exact at_of (j := 2) rfl rfl | exact at_of (j := 3) rfl rfl | exact .inr (by assumption) | exact .inl (by assumption) | exact .ty _ | exact dp_ty (by assumption) | exact kit_strD _ | exact kit_tupD _ | exact kit_intD _ | exact kit_boolD _ | exact ⟨_, rfl⟩ | decide | omega | exact (show 0 ≤ sizeLine by decide) | exact (show 1 ≤ sizeLine by decide) | exact (show 2 ≤ sizeLine by decide) | exact (show 3 ≤ sizeLine by decide) | exact (show 4 ≤ sizeLine by decide) | exact (show 5 ≤ sizeLine by decide) | exact (show 6 ≤ sizeLine by decide) | decide +kernel)) | apply Exists.intro | refine iteT ?_ | refine iteF ?_)
    refine k _ _ ⟨fun z => ⟨.str tx, sm, n, b, ws, rfl, m0, m1, n0, n1, er, by omega, .inr ⟨c2, rfl, of_decide_eq_true z⟩⟩, fun ⟨t', bd, n', b', ws', z, _, _, _, _, h4, h5, h6⟩ => ?_⟩ sH5
    cases z
    have h4 : rdS tx = _ := h4
    rw [er] at h4
    cases h4
    rcases h6 with ⟨h6, _⟩ | ⟨_, _, h6⟩
    · exact absurd h6 c2
    · exact decide_eq_true h6
end
theorem eqv_nil {e : PyData} (h : PyData.eqv e (.tuple []) = true) : e = .tuple [] := by
  cases e with
  | tuple xs =>
    cases xs with
    | nil => rfl
    | cons _ _ => cases h
  | _ => cases h
theorem rdS_ok {t : Str} {b : Int} {ws : List Wr} (h : rdS t = some (b, ws)) : StkOk b ws := by
  unfold rdS at h
  split at h
  · cases h
  · rename_i r0 rows e
    dsimp only at h
    split at h
    · rename_i c
      split at h
      · rename_i ws' em
        split at h
        · rename_i f
          cases h
          obtain ⟨ok, l⟩ := rds_ok em
          exact ⟨c.2.1, c.2.2.1, ok, by omega, f⟩
        · cases h
      · cases h
    · cases h
section
variable {P : Program} {w : World} {K : PySem.W.Frag} {mg : Str → Option Value} {base : Heap}
theorem ok_L_truth (T : Tx w K mg) : PromG P w K mg base 5 "_law_truth" s_L_truth ["_law_claim_here", "_law_page_here"] (spTruth K) := by
  refine PromG.of T.d_L_truth sc_L_truth (fun vs H Q E h => ?_) (fun _ _ _ _ _ _ us hl => match us, hl with | [_, _], _ => rfl) (fun f cdv A outer s H vs Q E hr hgd h => ?_)
  · obtain ⟨v, u, d, e, rfl, _⟩ := h
    rfl
  · obtain ⟨v, u, d, e, rfl, hd, he, hpg, ho, tx, k⟩ := h
    obtain ⟨tc, hc, run⟩ := truth_c (Q := Q) (f := f) (cdv := cdv) (outer := outer) (s := s) (H0 := H) (E := E) T hr hgd
    refine ⟨_, (pss_cons (ps_set (i := 2) sc_L_truth.nd rfl (Or.inl rfl) (pe_op op_sub (pe_op op_pow pe_int pe_int) pe_int))
      (pss_cons (ps_if (PW.pt (pw_or (pt_not (pt_val (pe_callB call_isi (by rfl) T.b_isinstance (by decide +kernel) (pa_cons (pv 0) (pa_cons (pe_bltn (v := .ty "tuple") (by rfl) T.b_tuple (by decide +kernel) rfl) pa_nil))))) (pw_or (pt_cmp (pc_lt (pe_callB call_len_seq (by rfl) T.b_len (by decide +kernel) (pa_cons (pv 0) pa_nil)) pe_int)) (pw_or1 (pt_not (pt_val (pe_callB call_isi (by rfl) T.b_isinstance (by decide +kernel) (pa_cons (pe_ix ix_tup (pv 0) pe_int (fun _ _ => rfl)) (pa_cons (pe_bltn (v := .ty "str") (by rfl) T.b_str (by decide +kernel) rfl) pa_nil))))))))) (pss_one (ps_ret pe_bl)) pss_nil)
      (pss_cons (ps_par (i := 3) (j := 4) (by rfl) sc_L_truth.nd rfl rfl (by decide) rfl rfl (pa_cons (pe_callP (ok_L_pile_in T) (hr.mono (by decide)) (by rfl) pass0 (pa_cons (pe_ix ix_tup (pv 0) pe_int (fun _ _ => rfl)) pa_nil)) (pa_cons (pe_ix ix_tup (pv 0) pe_int (fun _ _ => rfl)) pa_nil)) (by rfl))
      (pss_cons (ps_if (PW.pt (pw_or (pt_cmpR op_isN (pv 3) pe_non (nomark _)) (pw_or1 (pt_not (pt_val (pe_callP (ok_L_is T) (hr.mono (by decide)) (by rfl) pass0 (pa_cons (pv 4) (pa_cons (pv 2) pa_nil)))))))) (pss_one (ps_ret pe_bl)) pss_nil)
      (pss_cons (ps_asg (pv 3) (pg_tup rfl (pgs_cons (pg_name (i := 5) sc_L_truth.nd rfl (Or.inl rfl)) (pgs_cons (pg_name (i := 6) sc_L_truth.nd rfl (Or.inl rfl)) pgs_nil))))
      (pss_cons (ps_if (PW.pt (pw_and (pt_cmpR op_eq (pe_ix ix_tup (pv 0) pe_int (fun _ _ => rfl)) pe_str (nomark _)) (pw_and1 (pt_cmp (pc_eqI (pe_callB call_len_seq (by rfl) T.b_len (by decide +kernel) (pa_cons (pv 0) pa_nil)) pe_int))))) (pss_cons (ps_if (pt_val (pe_callB call_isi (by rfl) T.b_isinstance (by decide +kernel) (pa_cons (pv 1) (pa_cons (pe_bltn (v := .ty "tuple") (by rfl) T.b_tuple (by decide +kernel) rfl) pa_nil)))) (pss_one (ps_ret (pe_and (pe_cmpR (op_eqD hr.units) (pv 1) (pe_tup pa_nil) (nomark _)) (pe_one (pe_cmp (pc_gt (pe_callP (ok_L_long T) (hr.mono (by decide)) (by rfl) pass0 (pa_cons (pv 6) (pa_cons pe_int (pa_cons (pv 5) pa_nil)))) (pv 4))))))) pss_nil)
      (pss_cons (ps_if (pt_not (pt_val (pe_callP (ok_L_is T) (hr.mono (by decide)) (by rfl) pass0 (pa_cons (pv 1) (pa_cons (pe_op op_sub (pv 2) pe_int) pa_nil))))) (pss_one (ps_ret pe_bl)) pss_nil)
      (pss_one (ps_ret (pe_chain op_lt op_lt (pe_callP (ok_L_long T) (hr.mono (by decide)) (by rfl) pass0 (pa_cons (pv 6) (pa_cons (pv 1) (pa_cons (pv 5) pa_nil)))) (pv 4) (pe_callP (ok_L_long T) (hr.mono (by decide)) (by rfl) pass0 (pa_cons (pv 6) (pa_cons (pe_op op_add (pv 1) pe_int) (pa_cons (pv 5) pa_nil))))))))) pss_nil)
      (pss_cons (ps_if (PW.pt (pw_or (pt_cmpR op_ne (pe_ix ix_tup (pv 0) pe_int (fun _ _ => rfl)) pe_str (nomark _)) (pw_or (pt_cmp (pc_neI (pe_callB call_len_seq (by rfl) T.b_len (by decide +kernel) (pa_cons (pv 0) pa_nil)) pe_int)) (pw_or1 (pt_not (pt_val (pe_callP (ok_L_is T) (hr.mono (by decide)) (by rfl) pass0 (pa_cons (pe_ix ix_tup (pv 0) pe_int (fun _ _ => rfl)) (pa_cons (pv 2) pa_nil))))))))) (pss_one (ps_ret pe_bl)) pss_nil)
      hc))))))), ?_⟩
    have fin : ∀ H', Same H H' → ¬ HoldsM d e → Q (.bl false) H' := fun H' s n => k _ _ (nb n) s
    have cp : CPow 10 60 := ⟨by decide, by decide, by decide⟩
    repeat (first | (refine And.intro ?_ ?_; · (first | exact rfl | (show (_ : Int) ≤ _; omega) | (show (_ : Int) < _; omega) | assumption | exact SqL.of upd_same | exact SqT.of upd_same | exact upd_same | exact Drew.at_ (by assumption) | exact at_of (j := 0) rfl rfl | exact at_of (j := 1) rfl rfl | exact at_of (j := 2) rfl rfl | exact at_of (j := 3) rfl rfl | exact .inr (by assumption) | exact .inl (by assumption) | exact .ty _ | exact dp_ty (by assumption) | exact kit_strD _ | exact kit_tupD _ | exact kit_intD _ | exact kit_boolD _ | exact ⟨_, rfl⟩ | decide | omega | exact (show 0 ≤ sizeLine by decide) | exact (show 1 ≤ sizeLine by decide) | exact (show 2 ≤ sizeLine by decide) | exact (show 3 ≤ sizeLine by decide) | exact (show 4 ≤ sizeLine by decide) | exact (show 5 ≤ sizeLine by decide) | exact (show 6 ≤ sizeLine by decide) | decide +kernel)) | apply Exists.intro | refine iteT ?_ | refine iteF ?_)
    refine iteB (fun hb => ?_) (fun hb => ?_)
    · repeat (first | (refine And.intro ?_ ?_; · (first | exact rfl | (show (_ : Int) ≤ _; omega) | (show (_ : Int) < _; omega) | assumption | exact SqL.of upd_same | exact SqT.of upd_same | exact upd_same | exact Drew.at_ (by assumption) | exact at_of (j := 0) rfl rfl | exact at_of (j := 1) rfl rfl | exact at_of (j := 2) rfl rfl | exact at_of (j := 3) rfl rfl | exact .inr (by assumption) | exact .inl (by assumption) | exact .ty _ | exact dp_ty (by assumption) | exact kit_strD _ | exact kit_tupD _ | exact kit_intD _ | exact kit_boolD _ | exact ⟨_, rfl⟩ | decide | omega | exact (show 0 ≤ sizeLine by decide) | exact (show 1 ≤ sizeLine by decide) | exact (show 2 ≤ sizeLine by decide) | exact (show 3 ≤ sizeLine by decide) | exact (show 4 ≤ sizeLine by decide) | exact (show 5 ≤ sizeLine by decide) | exact (show 6 ≤ sizeLine by decide) | decide +kernel)) | apply Exists.intro | refine iteT ?_ | refine iteF ?_)
      refine fin _ (Same.refl H) fun ⟨ds, z⟩ => ?_
      rcases z with ⟨z, _⟩ | ⟨z, _⟩ <;> (rw [z] at hb; cases hb)
    obtain ⟨ds, rfl⟩ := tupD_of hb
    obtain ⟨a, xs, rfl, h1, h2⟩ : ∃ a xs, v = .ref a ∧ SqT K H a xs ∧ DpAll K H xs ds := by
      cases hd with
      | tup h1 h2 => exact ⟨_, _, rfl, h1, h2⟩
    have xl := DpAll.len h2
    clear hb
    repeat (first | (refine And.intro ?_ ?_; · (first | exact rfl | (show (_ : Int) ≤ _; omega) | (show (_ : Int) < _; omega) | assumption | exact SqL.of upd_same | exact SqT.of upd_same | exact upd_same | exact Drew.at_ (by assumption) | exact at_of (j := 0) rfl rfl | exact at_of (j := 1) rfl rfl | exact at_of (j := 2) rfl rfl | exact at_of (j := 3) rfl rfl | exact .inr (by assumption) | exact .inl (by assumption) | exact .ty _ | exact dp_ty (by assumption) | exact kit_strD _ | exact kit_tupD _ | exact kit_intD _ | exact kit_boolD _ | exact ⟨_, rfl⟩ | decide | omega | exact (show 0 ≤ sizeLine by decide) | exact (show 1 ≤ sizeLine by decide) | exact (show 2 ≤ sizeLine by decide) | exact (show 3 ≤ sizeLine by decide) | exact (show 4 ≤ sizeLine by decide) | exact (show 5 ≤ sizeLine by decide) | exact (show 6 ≤ sizeLine by decide) | decide +kernel)) | apply Exists.intro | refine iteT ?_ | refine iteF ?_)
    refine ifd (fun c => ?_) (fun c => ?_)
    · have c : (xs.length : Int) < 3 := c
      repeat (first | (refine And.intro ?_ ?_; · (first | exact rfl | (show (_ : Int) ≤ _; omega) | (show (_ : Int) < _; omega) | assumption | exact SqL.of upd_same | exact SqT.of upd_same | exact upd_same | exact Drew.at_ (by assumption) | exact at_of (j := 0) rfl rfl | exact at_of (j := 1) rfl rfl | exact at_of (j := 2) rfl rfl | exact at_of (j := 3) rfl rfl | exact .inr (by assumption) | exact .inl (by assumption) | exact .ty _ | exact dp_ty (by assumption) | exact kit_strD _ | exact kit_tupD _ | exact kit_intD _ | exact kit_boolD _ | exact ⟨_, rfl⟩ | decide | omega | exact (show 0 ≤ sizeLine by decide) | exact (show 1 ≤ sizeLine by decide) | exact (show 2 ≤ sizeLine by decide) | exact (show 3 ≤ sizeLine by decide) | exact (show 4 ≤ sizeLine by decide) | exact (show 5 ≤ sizeLine by decide) | exact (show 6 ≤ sizeLine by decide) | decide +kernel)) | apply Exists.intro | refine iteT ?_ | refine iteF ?_)
      refine fin _ (Same.refl H) fun ⟨ds', z⟩ => ?_
      rcases z with ⟨z, z2⟩ | ⟨z, z2⟩
      · obtain ⟨_, _, _, _, _, rfl, _⟩ := z2
        cases z
        rw [xl] at c
        exact absurd c (show ¬ ((4 : Nat) : Int) < 3 by decide)
      · obtain ⟨_, _, _, _, rfl, _⟩ := z2
        cases z
        rw [xl] at c
        exact absurd c (show ¬ ((3 : Nat) : Int) < 3 by decide)
    have c : ¬ (xs.length : Int) < 3 := c
    obtain ⟨x0, x1, x2, xr, rfl⟩ : ∃ x0 x1 x2 xr, xs = x0 :: x1 :: x2 :: xr := by
      match xs, c with
      | x0 :: x1 :: x2 :: xr, _ => exact ⟨_, _, _, _, rfl⟩
      | [], c => exact absurd (show ((0 : Nat) : Int) < 3 by decide) c
      | [_], c => exact absurd (show ((1 : Nat) : Int) < 3 by decide) c
      | [_, _], c => exact absurd (show ((2 : Nat) : Int) < 3 by decide) c
    obtain ⟨d0, e0, rfl, hx0, g0⟩ := DpAll.one h2
    obtain ⟨d1, e1, rfl, hx1, g1⟩ := DpAll.one g0
    obtain ⟨d2, dr, rfl, hx2, g2⟩ := DpAll.one g1
    clear g0 g1 c
    have a1 : atI (x0 :: x1 :: x2 :: xr) 1 = some x1 := at_of (j := 1) rfl rfl
    repeat (first | (refine And.intro ?_ ?_; · (first | exact rfl | (show (_ : Int) ≤ _; omega) | (show (_ : Int) < _; omega) | assumption | exact SqL.of upd_same | exact SqT.of upd_same | exact upd_same | exact Drew.at_ (by assumption) | exact at_of (j := 0) rfl rfl | exact at_of (j := 1) rfl rfl | exact at_of (j := 2) rfl rfl | exact at_of (j := 3) rfl rfl | exact .inr (by assumption) | exact .inl (by assumption) | exact .ty _ | exact dp_ty (by assumption) | exact kit_strD _ | exact kit_tupD _ | exact kit_intD _ | exact kit_boolD _ | exact ⟨_, rfl⟩ | decide | omega | exact (show 0 ≤ sizeLine by decide) | exact (show 1 ≤ sizeLine by decide) | exact (show 2 ≤ sizeLine by decide) | exact (show 3 ≤ sizeLine by decide) | exact (show 4 ≤ sizeLine by decide) | exact (show 5 ≤ sizeLine by decide) | exact (show 6 ≤ sizeLine by decide) | decide +kernel)) | apply Exists.intro | refine iteT ?_ | refine iteF ?_)
    refine iteB (fun hb => ?_) (fun hb => ?_)
    · repeat (first | (refine And.intro ?_ ?_; · (first | exact rfl | (show (_ : Int) ≤ _; omega) | (show (_ : Int) < _; omega) | assumption | exact SqL.of upd_same | exact SqT.of upd_same | exact upd_same | exact Drew.at_ (by assumption) | exact at_of (j := 0) rfl rfl | exact at_of (j := 1) rfl rfl | exact at_of (j := 2) rfl rfl | exact at_of (j := 3) rfl rfl | exact .inr (by assumption) | exact .inl (by assumption) | exact .ty _ | exact dp_ty (by assumption) | exact kit_strD _ | exact kit_tupD _ | exact kit_intD _ | exact kit_boolD _ | exact ⟨_, rfl⟩ | decide | omega | exact (show 0 ≤ sizeLine by decide) | exact (show 1 ≤ sizeLine by decide) | exact (show 2 ≤ sizeLine by decide) | exact (show 3 ≤ sizeLine by decide) | exact (show 4 ≤ sizeLine by decide) | exact (show 5 ≤ sizeLine by decide) | exact (show 6 ≤ sizeLine by decide) | decide +kernel)) | apply Exists.intro | refine iteT ?_ | refine iteF ?_)
      refine fin _ (Same.refl H) fun ⟨ds', z⟩ => ?_
      rcases z with ⟨z, t, _, _, _, _, z2, _, _, _, _, h, _⟩ | ⟨z, t, _, _, _, z2, _, _, h, _⟩
      · cases z
        cases z2
        cases d1 with
        | str _ => cases hb
        | _ => cases h
      · cases z
        cases z2
        cases d1 with
        | str _ => cases hb
        | _ => cases h
    obtain ⟨s0, rfl⟩ := ho _ _ _ rfl hb
    obtain ⟨tt, rfl⟩ := strD_of hb
    cases hx0
    cases hx1
    have tl := tx _ rfl (.str tt) (.tail _ (.head _)) tt rfl
    repeat (first | (refine And.intro ?_ ?_; · (first | exact rfl | (show (_ : Int) ≤ _; omega) | (show (_ : Int) < _; omega) | assumption | exact SqL.of upd_same | exact SqT.of upd_same | exact upd_same | exact Drew.at_ (by assumption) | exact at_of (j := 0) rfl rfl | exact at_of (j := 1) rfl rfl | exact at_of (j := 2) rfl rfl | exact at_of (j := 3) rfl rfl | exact .inr (by assumption) | exact .inl (by assumption) | exact .ty _ | exact dp_ty (by assumption) | exact kit_strD _ | exact kit_tupD _ | exact kit_intD _ | exact kit_boolD _ | exact ⟨_, rfl⟩ | decide | omega | exact (show 0 ≤ sizeLine by decide) | exact (show 1 ≤ sizeLine by decide) | exact (show 2 ≤ sizeLine by decide) | exact (show 3 ≤ sizeLine by decide) | exact (show 4 ≤ sizeLine by decide) | exact (show 5 ≤ sizeLine by decide) | exact (show 6 ≤ sizeLine by decide) | decide +kernel)) | apply Exists.intro | refine iteT ?_ | refine iteF ?_)
    intro pv H1 s1 hpv
    have h11 := sqT_same s1 h1
    refine ⟨_, rfl, a, _, _, x2, rfl, rfl, h11, at_of (j := 2) rfl rfl, ?_⟩
    refine ⟨_, _, rfl, ?_⟩
    refine st_eq [some (.ref a), some u, some (.int (10 ^ 60 - 1)), some pv, some x2, none, none, none, none] rfl ?_
    have hx2 := Dp.same s1 hx2
    have he1 := Dp.same s1 he
    have gen : HoldsM (.tuple (.str s0 :: .str tt :: d2 :: dr)) e → ∃ (sm b : Int) (ws : List Wr), d2 = .int sm ∧ 0 ≤ sm ∧ sm ≤ 10 ^ 60 - 1 ∧ rdS tt = some (b, ws) := fun ⟨ds', z⟩ => by
      rcases z with ⟨z, t, bd, n, b, ws, z2, k0, k1, _, _, h, _⟩ | ⟨z, t, sz, b, ws, z2, k0, k1, h, _⟩
      · cases z
        cases z2
        exact ⟨bd, b, ws, rfl, k0, k1, h⟩
      · cases z
        cases z2
        exact ⟨sz, b, ws, rfl, k0, k1, h⟩
    rcases hpv with ⟨rfl, er⟩ | ⟨q, l, ys, b, ws, rfl, gq, gl, ln, ht, er, ok, b0, b1⟩
    · repeat (first | (refine And.intro ?_ ?_; · (first | exact rfl | (show (_ : Int) ≤ _; omega) | (show (_ : Int) < _; omega) | assumption | exact SqL.of upd_same | exact SqT.of upd_same | exact upd_same | exact Drew.at_ (by assumption) | exact at_of (j := 0) rfl rfl | exact at_of (j := 1) rfl rfl | exact at_of (j := 2) rfl rfl | exact at_of (j := 3) rfl rfl | exact .inr (by assumption) | exact .inl (by assumption) | exact .ty _ | exact dp_ty (by assumption) | exact kit_strD _ | exact kit_tupD _ | exact kit_intD _ | exact kit_boolD _ | exact ⟨_, rfl⟩ | decide | omega | exact (show 0 ≤ sizeLine by decide) | exact (show 1 ≤ sizeLine by decide) | exact (show 2 ≤ sizeLine by decide) | exact (show 3 ≤ sizeLine by decide) | exact (show 4 ≤ sizeLine by decide) | exact (show 5 ≤ sizeLine by decide) | exact (show 6 ≤ sizeLine by decide) | decide +kernel)) | apply Exists.intro | refine iteT ?_ | refine iteF ?_)
      refine fin _ s1 fun z => ?_
      obtain ⟨_, _, _, _, _, _, h⟩ := gen z
      rw [er] at h
      cases h
    have w6 : ws.length ≤ 6 := (rdS_ok er).len
    refine ⟨_, rfl, rfl, _, rfl, iteF ?_⟩
    repeat (first | (refine And.intro ?_ ?_; · (first | exact rfl | (show (_ : Int) ≤ _; omega) | (show (_ : Int) < _; omega) | assumption | exact SqL.of upd_same | exact SqT.of upd_same | exact upd_same | exact Drew.at_ (by assumption) | exact at_of (j := 0) rfl rfl | exact at_of (j := 1) rfl rfl | exact at_of (j := 2) rfl rfl | exact at_of (j := 3) rfl rfl | exact .inr (by assumption) | exact .inl (by assumption) | exact .ty _ | exact dp_ty (by assumption) | exact kit_strD _ | exact kit_tupD _ | exact kit_intD _ | exact kit_boolD _ | exact ⟨_, rfl⟩ | decide | omega | exact (show 0 ≤ sizeLine by decide) | exact (show 1 ≤ sizeLine by decide) | exact (show 2 ≤ sizeLine by decide) | exact (show 3 ≤ sizeLine by decide) | exact (show 4 ≤ sizeLine by decide) | exact (show 5 ≤ sizeLine by decide) | exact (show 6 ≤ sizeLine by decide) | decide +kernel)) | apply Exists.intro | refine iteT ?_ | refine iteF ?_)
    refine iteB (fun c2 => ?_) (fun c2 => ?_)
    · repeat (first | (refine And.intro ?_ ?_; · (first | exact rfl | (show (_ : Int) ≤ _; omega) | (show (_ : Int) < _; omega) | assumption | exact SqL.of upd_same | exact SqT.of upd_same | exact upd_same | exact Drew.at_ (by assumption) | exact at_of (j := 0) rfl rfl | exact at_of (j := 1) rfl rfl | exact at_of (j := 2) rfl rfl | exact at_of (j := 3) rfl rfl | exact .inr (by assumption) | exact .inl (by assumption) | exact .ty _ | exact dp_ty (by assumption) | exact kit_strD _ | exact kit_tupD _ | exact kit_intD _ | exact kit_boolD _ | exact ⟨_, rfl⟩ | decide | omega | exact (show 0 ≤ sizeLine by decide) | exact (show 1 ≤ sizeLine by decide) | exact (show 2 ≤ sizeLine by decide) | exact (show 3 ≤ sizeLine by decide) | exact (show 4 ≤ sizeLine by decide) | exact (show 5 ≤ sizeLine by decide) | exact (show 6 ≤ sizeLine by decide) | decide +kernel)) | apply Exists.intro | refine iteT ?_ | refine iteF ?_)
      refine fin _ s1 fun z => ?_
      obtain ⟨sm, _, _, rfl, k0, k1, _⟩ := gen z
      exact inR_no c2 ⟨k0, k1⟩
    obtain ⟨sm, rfl, m0, m1⟩ := inR_int c2
    cases hx2
    refine ⟨_, rfl, q, _, rfl, SqT.of gq, rfl, ?_⟩
    have gl1 := gl
    have n00 : (0 : Int) ≤ 0 := Int.le_refl 0
    have cl := DpAll.len g2
    clear c2 gen hd
    repeat (first | (refine And.intro ?_ ?_; · (first | exact rfl | (show (_ : Int) ≤ _; omega) | (show (_ : Int) < _; omega) | assumption | exact SqL.of upd_same | exact SqT.of upd_same | exact upd_same | exact Drew.at_ (by assumption) | exact at_of (j := 0) rfl rfl | exact at_of (j := 1) rfl rfl | exact at_of (j := 2) rfl rfl | exact at_of (j := 3) rfl rfl | exact .inr (by assumption) | exact .inl (by assumption) | exact .ty _ | exact dp_ty (by assumption) | exact kit_strD _ | exact kit_tupD _ | exact kit_intD _ | exact kit_boolD _ | exact ⟨_, rfl⟩ | decide | omega | exact (show 0 ≤ sizeLine by decide) | exact (show 1 ≤ sizeLine by decide) | exact (show 2 ≤ sizeLine by decide) | exact (show 3 ≤ sizeLine by decide) | exact (show 4 ≤ sizeLine by decide) | exact (show 5 ≤ sizeLine by decide) | exact (show 6 ≤ sizeLine by decide) | decide +kernel)) | apply Exists.intro | refine iteT ?_ | refine iteF ?_)
    refine ifeq (fun em => ?_) (fun em => ?_)
    · subst em
      repeat (first | (refine And.intro ?_ ?_; · (first | exact rfl | (show (_ : Int) ≤ _; omega) | (show (_ : Int) < _; omega) | assumption | exact SqL.of upd_same | exact SqT.of upd_same | exact upd_same | exact Drew.at_ (by assumption) | exact at_of (j := 0) rfl rfl | exact at_of (j := 1) rfl rfl | exact at_of (j := 2) rfl rfl | exact at_of (j := 3) rfl rfl | exact .inr (by assumption) | exact .inl (by assumption) | exact .ty _ | exact dp_ty (by assumption) | exact kit_strD _ | exact kit_tupD _ | exact kit_intD _ | exact kit_boolD _ | exact ⟨_, rfl⟩ | decide | omega | exact (show 0 ≤ sizeLine by decide) | exact (show 1 ≤ sizeLine by decide) | exact (show 2 ≤ sizeLine by decide) | exact (show 3 ≤ sizeLine by decide) | exact (show 4 ≤ sizeLine by decide) | exact (show 5 ≤ sizeLine by decide) | exact (show 6 ≤ sizeLine by decide) | decide +kernel)) | apply Exists.intro | refine iteT ?_ | refine iteF ?_)
      refine ifd (fun c3 => ?_) (fun c3 => ?_)
      · obtain rfl : xr = [] := by
          have c3 : ((.str "missed" :: .str tt :: .int sm :: xr).length : Int) = 3 := c3
          simp only [List.length_cons] at c3
          exact List.length_eq_zero_iff.mp (by omega)
        obtain rfl := DpAll.zero g2
        clear c3 cl
        have key : ∀ {Z : Prop}, (((e = .tuple [] ∧ sm < grS b ws 0) ∨ ∃ n : Int, e = .int n ∧ 0 ≤ n ∧ n < 10 ^ 60 - 1 ∧ grS b ws n < sm ∧ sm < grS b ws (n + 1)) ↔ Z) → (HoldsM (.tuple [.str "missed", .str tt, .int sm]) e ↔ Z) := fun {Z} h => by
          rw [← h]
          refine ⟨fun ⟨ds', z⟩ => ?_, fun h5 => ⟨_, .inr ⟨rfl, .str tt, sm, b, ws, rfl, m0, m1, er, h5⟩⟩⟩
          rcases z with ⟨z, _⟩ | ⟨z, t, sz, b', ws', z2, _, _, h4, h5⟩
          · cases z
          · cases z
            cases z2
            have h4 : rdS tt = _ := h4
            rw [er] at h4
            cases h4
            exact h5
        have fin : ∀ H', Same H1 H' → ¬ HoldsM (.tuple [.str "missed", .str tt, .int sm]) e → Q (.bl false) H' := fun H' s n => fin H' (fun x o y => s _ _ (s1 _ _ y)) n
        have k : ∀ r H', (r = true ↔ HoldsM (.tuple [.str "missed", .str tt, .int sm]) e) → Same H1 H' → Q (.bl r) H' := fun r H' h s => k r H' h (fun x o y => s _ _ (s1 _ _ y))
        repeat (first | (refine And.intro ?_ ?_; · (first | exact rfl | (show (_ : Int) ≤ _; omega) | (show (_ : Int) < _; omega) | assumption | exact SqL.of upd_same | exact SqT.of upd_same | exact upd_same | exact Drew.at_ (by assumption) | exact at_of (j := 0) rfl rfl | exact at_of (j := 1) rfl rfl | exact at_of (j := 2) rfl rfl | exact at_of (j := 3) rfl rfl | exact .inr (by assumption) | exact .inl (by assumption) | exact .ty _ | exact dp_ty (by assumption) | exact kit_strD _ | exact kit_tupD _ | exact kit_intD _ | exact kit_boolD _ | exact ⟨_, rfl⟩ | decide | omega | exact (show 0 ≤ sizeLine by decide) | exact (show 1 ≤ sizeLine by decide) | exact (show 2 ≤ sizeLine by decide) | exact (show 3 ≤ sizeLine by decide) | exact (show 4 ≤ sizeLine by decide) | exact (show 5 ≤ sizeLine by decide) | exact (show 6 ≤ sizeLine by decide) | decide +kernel)) | apply Exists.intro | refine iteT ?_ | refine iteF ?_)
        cases ct : isTupD e with
        | true =>
          repeat (first | (refine And.intro ?_ ?_; · (first | exact rfl | (show (_ : Int) ≤ _; omega) | (show (_ : Int) < _; omega) | assumption | exact SqL.of upd_same | exact SqT.of upd_same | exact upd_same | exact Drew.at_ (by assumption) | exact at_of (j := 0) rfl rfl | exact at_of (j := 1) rfl rfl | exact at_of (j := 2) rfl rfl | exact at_of (j := 3) rfl rfl | exact .inr (by assumption) | exact .inl (by assumption) | exact .ty _ | exact dp_ty (by assumption) | exact kit_strD _ | exact kit_tupD _ | exact kit_intD _ | exact kit_boolD _ | exact ⟨_, rfl⟩ | decide | omega | exact (show 0 ≤ sizeLine by decide) | exact (show 1 ≤ sizeLine by decide) | exact (show 2 ≤ sizeLine by decide) | exact (show 3 ≤ sizeLine by decide) | exact (show 4 ≤ sizeLine by decide) | exact (show 5 ≤ sizeLine by decide) | exact (show 6 ≤ sizeLine by decide) | decide +kernel)) | apply Exists.intro | refine iteT ?_ | refine iteF ?_)
          intro p3 hp3
          have zH2 : Same H1 (upd H1 p3 (.tup [])) := up hp3
          have sH2 : Same H1 (upd H1 p3 (.tup [])) := fun x o e => zH2 _ _ ((Same.refl H1) _ _ e)
          have gp3 : upd H1 p3 (.tup []) p3 = some (.tup []) := upd_same
          generalize upd H1 p3 (.tup []) = H2 at *
          have he2 := Dp.same zH2 he1
          refine ⟨e, .tuple [], he2, .tup (SqT.of gp3) .nil, hpg.1, rfl, ?_⟩
          have gl2 := zH2 _ _ gl
          have ht2 := ht.same zH2
          cases ev : PyData.eqv e (.tuple []) with
          | false =>
            repeat (first | (refine And.intro ?_ ?_; · (first | exact rfl | (show (_ : Int) ≤ _; omega) | (show (_ : Int) < _; omega) | assumption | exact SqL.of upd_same | exact SqT.of upd_same | exact upd_same | exact Drew.at_ (by assumption) | exact at_of (j := 0) rfl rfl | exact at_of (j := 1) rfl rfl | exact at_of (j := 2) rfl rfl | exact at_of (j := 3) rfl rfl | exact .inr (by assumption) | exact .inl (by assumption) | exact .ty _ | exact dp_ty (by assumption) | exact kit_strD _ | exact kit_tupD _ | exact kit_intD _ | exact kit_boolD _ | exact ⟨_, rfl⟩ | decide | omega | exact (show 0 ≤ sizeLine by decide) | exact (show 1 ≤ sizeLine by decide) | exact (show 2 ≤ sizeLine by decide) | exact (show 3 ≤ sizeLine by decide) | exact (show 4 ≤ sizeLine by decide) | exact (show 5 ≤ sizeLine by decide) | exact (show 6 ≤ sizeLine by decide) | decide +kernel)) | apply Exists.intro | refine iteT ?_ | refine iteF ?_)
            refine fin _ zH2 fun z => ?_
            rcases (key Iff.rfl).mp z with ⟨rfl, _⟩ | ⟨n, rfl, _⟩
            · cases ev
            · cases ct
          | true =>
            obtain rfl := eqv_nil ev
            repeat (first | (refine And.intro ?_ ?_; · (first | exact rfl | (show (_ : Int) ≤ _; omega) | (show (_ : Int) < _; omega) | assumption | exact SqL.of upd_same | exact SqT.of upd_same | exact upd_same | exact Drew.at_ (by assumption) | exact at_of (j := 0) rfl rfl | exact at_of (j := 1) rfl rfl | exact at_of (j := 2) rfl rfl | exact at_of (j := 3) rfl rfl | exact .inr (by assumption) | exact .inl (by assumption) | exact .ty _ | exact dp_ty (by assumption) | exact kit_strD _ | exact kit_tupD _ | exact kit_intD _ | exact kit_boolD _ | exact ⟨_, rfl⟩ | decide | omega | exact (show 0 ≤ sizeLine by decide) | exact (show 1 ≤ sizeLine by decide) | exact (show 2 ≤ sizeLine by decide) | exact (show 3 ≤ sizeLine by decide) | exact (show 4 ≤ sizeLine by decide) | exact (show 5 ≤ sizeLine by decide) | exact (show 6 ≤ sizeLine by decide) | decide +kernel)) | apply Exists.intro | refine iteT ?_ | refine iteF ?_)
            intro H3 s3
            repeat (first | (refine And.intro ?_ ?_; · (first | exact rfl | (show (_ : Int) ≤ _; omega) | (show (_ : Int) < _; omega) | assumption | exact SqL.of upd_same | exact SqT.of upd_same | exact upd_same | exact Drew.at_ (by assumption) | exact at_of (j := 0) rfl rfl | exact at_of (j := 1) rfl rfl | exact at_of (j := 2) rfl rfl | exact at_of (j := 3) rfl rfl | exact .inr (by assumption) | exact .inl (by assumption) | exact .ty _ | exact dp_ty (by assumption) | exact kit_strD _ | exact kit_tupD _ | exact kit_intD _ | exact kit_boolD _ | exact ⟨_, rfl⟩ | decide | omega | exact (show 0 ≤ sizeLine by decide) | exact (show 1 ≤ sizeLine by decide) | exact (show 2 ≤ sizeLine by decide) | exact (show 3 ≤ sizeLine by decide) | exact (show 4 ≤ sizeLine by decide) | exact (show 5 ≤ sizeLine by decide) | exact (show 6 ≤ sizeLine by decide) | decide +kernel)) | apply Exists.intro | refine iteT ?_ | refine iteF ?_)
            refine k _ _ (Iff.trans ?_ (key Iff.rfl).symm) (fun x o y => s3 _ _ (zH2 _ _ y))
            refine ⟨fun z => .inl ⟨rfl, of_decide_eq_true z⟩, fun z => ?_⟩
            rcases z with ⟨_, z⟩ | ⟨n, z, _⟩
            · exact decide_eq_true z
            · cases z
        | false =>
          repeat (first | (refine And.intro ?_ ?_; · (first | exact rfl | (show (_ : Int) ≤ _; omega) | (show (_ : Int) < _; omega) | assumption | exact SqL.of upd_same | exact SqT.of upd_same | exact upd_same | exact Drew.at_ (by assumption) | exact at_of (j := 0) rfl rfl | exact at_of (j := 1) rfl rfl | exact at_of (j := 2) rfl rfl | exact at_of (j := 3) rfl rfl | exact .inr (by assumption) | exact .inl (by assumption) | exact .ty _ | exact dp_ty (by assumption) | exact kit_strD _ | exact kit_tupD _ | exact kit_intD _ | exact kit_boolD _ | exact ⟨_, rfl⟩ | decide | omega | exact (show 0 ≤ sizeLine by decide) | exact (show 1 ≤ sizeLine by decide) | exact (show 2 ≤ sizeLine by decide) | exact (show 3 ≤ sizeLine by decide) | exact (show 4 ≤ sizeLine by decide) | exact (show 5 ≤ sizeLine by decide) | exact (show 6 ≤ sizeLine by decide) | decide +kernel)) | apply Exists.intro | refine iteT ?_ | refine iteF ?_)
          refine iteB (fun ci => ?_) (fun ci => ?_)
          · repeat (first | (refine And.intro ?_ ?_; · (first | exact rfl | (show (_ : Int) ≤ _; omega) | (show (_ : Int) < _; omega) | assumption | exact SqL.of upd_same | exact SqT.of upd_same | exact upd_same | exact Drew.at_ (by assumption) | exact at_of (j := 0) rfl rfl | exact at_of (j := 1) rfl rfl | exact at_of (j := 2) rfl rfl | exact at_of (j := 3) rfl rfl | exact .inr (by assumption) | exact .inl (by assumption) | exact .ty _ | exact dp_ty (by assumption) | exact kit_strD _ | exact kit_tupD _ | exact kit_intD _ | exact kit_boolD _ | exact ⟨_, rfl⟩ | decide | omega | exact (show 0 ≤ sizeLine by decide) | exact (show 1 ≤ sizeLine by decide) | exact (show 2 ≤ sizeLine by decide) | exact (show 3 ≤ sizeLine by decide) | exact (show 4 ≤ sizeLine by decide) | exact (show 5 ≤ sizeLine by decide) | exact (show 6 ≤ sizeLine by decide) | decide +kernel)) | apply Exists.intro | refine iteT ?_ | refine iteF ?_)
            refine fin _ (Same.refl H1) fun z => ?_
            rcases (key Iff.rfl).mp z with ⟨rfl, _⟩ | ⟨n, rfl, n0, n1, _⟩
            · cases ct
            · exact inR_no ci ⟨n0, by omega⟩
          obtain ⟨n, rfl, n0, n1⟩ := inR_int ci
          have n1 : n ≤ 10 ^ 60 - 1 - 1 := n1
          cases he1
          have n2 : 0 ≤ n + 1 := by omega
          repeat (first | (refine And.intro ?_ ?_; · (first | exact rfl | (show (_ : Int) ≤ _; omega) | (show (_ : Int) < _; omega) | assumption | exact SqL.of upd_same | exact SqT.of upd_same | exact upd_same | exact Drew.at_ (by assumption) | exact at_of (j := 0) rfl rfl | exact at_of (j := 1) rfl rfl | exact at_of (j := 2) rfl rfl | exact at_of (j := 3) rfl rfl | exact .inr (by assumption) | exact .inl (by assumption) | exact .ty _ | exact dp_ty (by assumption) | exact kit_strD _ | exact kit_tupD _ | exact kit_intD _ | exact kit_boolD _ | exact ⟨_, rfl⟩ | decide | omega | exact (show 0 ≤ sizeLine by decide) | exact (show 1 ≤ sizeLine by decide) | exact (show 2 ≤ sizeLine by decide) | exact (show 3 ≤ sizeLine by decide) | exact (show 4 ≤ sizeLine by decide) | exact (show 5 ≤ sizeLine by decide) | exact (show 6 ≤ sizeLine by decide) | decide +kernel)) | apply Exists.intro | refine iteT ?_ | refine iteF ?_)
          intro H3 s3
          have gl3 := s3 _ _ gl
          have ht3 := ht.same s3
          repeat (first | (refine And.intro ?_ ?_; · (first | exact rfl | (show (_ : Int) ≤ _; omega) | (show (_ : Int) < _; omega) | assumption | exact SqL.of upd_same | exact SqT.of upd_same | exact upd_same | exact Drew.at_ (by assumption) | exact at_of (j := 0) rfl rfl | exact at_of (j := 1) rfl rfl | exact at_of (j := 2) rfl rfl | exact at_of (j := 3) rfl rfl | exact .inr (by assumption) | exact .inl (by assumption) | exact .ty _ | exact dp_ty (by assumption) | exact kit_strD _ | exact kit_tupD _ | exact kit_intD _ | exact kit_boolD _ | exact ⟨_, rfl⟩ | decide | omega | exact (show 0 ≤ sizeLine by decide) | exact (show 1 ≤ sizeLine by decide) | exact (show 2 ≤ sizeLine by decide) | exact (show 3 ≤ sizeLine by decide) | exact (show 4 ≤ sizeLine by decide) | exact (show 5 ≤ sizeLine by decide) | exact (show 6 ≤ sizeLine by decide) | decide +kernel)) | apply Exists.intro | refine iteT ?_ | refine iteF ?_)
          refine ifd (fun c4 => ?_) (fun c4 => ?_)
          · repeat (first | (refine And.intro ?_ ?_; · (first | exact rfl | (show (_ : Int) ≤ _; omega) | (show (_ : Int) < _; omega) | assumption | exact SqL.of upd_same | exact SqT.of upd_same | exact upd_same | exact Drew.at_ (by assumption) | exact at_of (j := 0) rfl rfl | exact at_of (j := 1) rfl rfl | exact at_of (j := 2) rfl rfl | exact at_of (j := 3) rfl rfl | exact .inr (by assumption) | exact .inl (by assumption) | exact .ty _ | exact dp_ty (by assumption) | exact kit_strD _ | exact kit_tupD _ | exact kit_intD _ | exact kit_boolD _ | exact ⟨_, rfl⟩ | decide | omega | exact (show 0 ≤ sizeLine by decide) | exact (show 1 ≤ sizeLine by decide) | exact (show 2 ≤ sizeLine by decide) | exact (show 3 ≤ sizeLine by decide) | exact (show 4 ≤ sizeLine by decide) | exact (show 5 ≤ sizeLine by decide) | exact (show 6 ≤ sizeLine by decide) | decide +kernel)) | apply Exists.intro | refine iteT ?_ | refine iteF ?_)
            intro H4 s4
            repeat (first | (refine And.intro ?_ ?_; · (first | exact rfl | (show (_ : Int) ≤ _; omega) | (show (_ : Int) < _; omega) | assumption | exact SqL.of upd_same | exact SqT.of upd_same | exact upd_same | exact Drew.at_ (by assumption) | exact at_of (j := 0) rfl rfl | exact at_of (j := 1) rfl rfl | exact at_of (j := 2) rfl rfl | exact at_of (j := 3) rfl rfl | exact .inr (by assumption) | exact .inl (by assumption) | exact .ty _ | exact dp_ty (by assumption) | exact kit_strD _ | exact kit_tupD _ | exact kit_intD _ | exact kit_boolD _ | exact ⟨_, rfl⟩ | decide | omega | exact (show 0 ≤ sizeLine by decide) | exact (show 1 ≤ sizeLine by decide) | exact (show 2 ≤ sizeLine by decide) | exact (show 3 ≤ sizeLine by decide) | exact (show 4 ≤ sizeLine by decide) | exact (show 5 ≤ sizeLine by decide) | exact (show 6 ≤ sizeLine by decide) | decide +kernel)) | apply Exists.intro | refine iteT ?_ | refine iteF ?_)
            refine k _ _ (Iff.trans ?_ (key Iff.rfl).symm) (fun x o y => s4 _ _ (s3 _ _ y))
            refine ⟨fun z => .inr ⟨n, rfl, n0, by omega, c4, of_decide_eq_true z⟩, fun z => ?_⟩
            rcases z with ⟨z, _⟩ | ⟨m, z, _, _, _, h⟩
            · cases z
            · cases z
              exact decide_eq_true h
          · repeat (first | (refine And.intro ?_ ?_; · (first | exact rfl | (show (_ : Int) ≤ _; omega) | (show (_ : Int) < _; omega) | assumption | exact SqL.of upd_same | exact SqT.of upd_same | exact upd_same | exact Drew.at_ (by assumption) | exact at_of (j := 0) rfl rfl | exact at_of (j := 1) rfl rfl | exact at_of (j := 2) rfl rfl | exact at_of (j := 3) rfl rfl | exact .inr (by assumption) | exact .inl (by assumption) | exact .ty _ | exact dp_ty (by assumption) | exact kit_strD _ | exact kit_tupD _ | exact kit_intD _ | exact kit_boolD _ | exact ⟨_, rfl⟩ | decide | omega | exact (show 0 ≤ sizeLine by decide) | exact (show 1 ≤ sizeLine by decide) | exact (show 2 ≤ sizeLine by decide) | exact (show 3 ≤ sizeLine by decide) | exact (show 4 ≤ sizeLine by decide) | exact (show 5 ≤ sizeLine by decide) | exact (show 6 ≤ sizeLine by decide) | decide +kernel)) | apply Exists.intro | refine iteT ?_ | refine iteF ?_)
            refine fin _ s3 fun z => ?_
            rcases (key Iff.rfl).mp z with ⟨z, _⟩ | ⟨m, z, _, _, h, _⟩
            · cases z
            · cases z
              exact c4 h
      · repeat (first | (refine And.intro ?_ ?_; · (first | exact rfl | (show (_ : Int) ≤ _; omega) | (show (_ : Int) < _; omega) | assumption | exact SqL.of upd_same | exact SqT.of upd_same | exact upd_same | exact Drew.at_ (by assumption) | exact at_of (j := 0) rfl rfl | exact at_of (j := 1) rfl rfl | exact at_of (j := 2) rfl rfl | exact at_of (j := 3) rfl rfl | exact .inr (by assumption) | exact .inl (by assumption) | exact .ty _ | exact dp_ty (by assumption) | exact kit_strD _ | exact kit_tupD _ | exact kit_intD _ | exact kit_boolD _ | exact ⟨_, rfl⟩ | decide | omega | exact (show 0 ≤ sizeLine by decide) | exact (show 1 ≤ sizeLine by decide) | exact (show 2 ≤ sizeLine by decide) | exact (show 3 ≤ sizeLine by decide) | exact (show 4 ≤ sizeLine by decide) | exact (show 5 ≤ sizeLine by decide) | exact (show 6 ≤ sizeLine by decide) | decide +kernel)) | apply Exists.intro | refine iteT ?_ | refine iteF ?_)
        refine fin _ s1 fun ⟨ds', z⟩ => ?_
        rcases z with ⟨z, _⟩ | ⟨z, t, sz, b', ws', z2, _⟩
        · cases z
        · cases z
          cases z2
          refine c3 ?_
          show ((.str "missed" :: .str tt :: .int sm :: xr).length : Int) = 3
          simp only [List.length_cons, cl, List.length_nil]
          rfl
    · repeat (first | (refine And.intro ?_ ?_; · (first | exact rfl | (show (_ : Int) ≤ _; omega) | (show (_ : Int) < _; omega) | assumption | exact SqL.of upd_same | exact SqT.of upd_same | exact upd_same | exact Drew.at_ (by assumption) | exact at_of (j := 0) rfl rfl | exact at_of (j := 1) rfl rfl | exact at_of (j := 2) rfl rfl | exact at_of (j := 3) rfl rfl | exact .inr (by assumption) | exact .inl (by assumption) | exact .ty _ | exact dp_ty (by assumption) | exact kit_strD _ | exact kit_tupD _ | exact kit_intD _ | exact kit_boolD _ | exact ⟨_, rfl⟩ | decide | omega | exact (show 0 ≤ sizeLine by decide) | exact (show 1 ≤ sizeLine by decide) | exact (show 2 ≤ sizeLine by decide) | exact (show 3 ≤ sizeLine by decide) | exact (show 4 ≤ sizeLine by decide) | exact (show 5 ≤ sizeLine by decide) | exact (show 6 ≤ sizeLine by decide) | decide +kernel)) | apply Exists.intro | refine iteT ?_ | refine iteF ?_)
      by_cases ep : s0 = "payload"
      · subst ep
        repeat (first | (refine And.intro ?_ ?_; · (first | exact rfl | (show (_ : Int) ≤ _; omega) | (show (_ : Int) < _; omega) | assumption | exact SqL.of upd_same | exact SqT.of upd_same | exact upd_same | exact Drew.at_ (by assumption) | exact at_of (j := 0) rfl rfl | exact at_of (j := 1) rfl rfl | exact at_of (j := 2) rfl rfl | exact at_of (j := 3) rfl rfl | exact .inr (by assumption) | exact .inl (by assumption) | exact .ty _ | exact dp_ty (by assumption) | exact kit_strD _ | exact kit_tupD _ | exact kit_intD _ | exact kit_boolD _ | exact ⟨_, rfl⟩ | decide | omega | exact (show 0 ≤ sizeLine by decide) | exact (show 1 ≤ sizeLine by decide) | exact (show 2 ≤ sizeLine by decide) | exact (show 3 ≤ sizeLine by decide) | exact (show 4 ≤ sizeLine by decide) | exact (show 5 ≤ sizeLine by decide) | exact (show 6 ≤ sizeLine by decide) | decide +kernel)) | apply Exists.intro | refine iteT ?_ | refine iteF ?_)
        refine ifn (fun c3 => ?_) (fun c3 => ?_)
        · repeat (first | (refine And.intro ?_ ?_; · (first | exact rfl | (show (_ : Int) ≤ _; omega) | (show (_ : Int) < _; omega) | assumption | exact SqL.of upd_same | exact SqT.of upd_same | exact upd_same | exact Drew.at_ (by assumption) | exact at_of (j := 0) rfl rfl | exact at_of (j := 1) rfl rfl | exact at_of (j := 2) rfl rfl | exact at_of (j := 3) rfl rfl | exact .inr (by assumption) | exact .inl (by assumption) | exact .ty _ | exact dp_ty (by assumption) | exact kit_strD _ | exact kit_tupD _ | exact kit_intD _ | exact kit_boolD _ | exact ⟨_, rfl⟩ | decide | omega | exact (show 0 ≤ sizeLine by decide) | exact (show 1 ≤ sizeLine by decide) | exact (show 2 ≤ sizeLine by decide) | exact (show 3 ≤ sizeLine by decide) | exact (show 4 ≤ sizeLine by decide) | exact (show 5 ≤ sizeLine by decide) | exact (show 6 ≤ sizeLine by decide) | decide +kernel)) | apply Exists.intro | refine iteT ?_ | refine iteF ?_)
          refine fin _ s1 fun ⟨ds', z⟩ => ?_
          rcases z with ⟨z, t, bd, n, b', ws', z2, _⟩ | ⟨z, _⟩
          · cases z
            cases z2
            refine c3 ?_
            show ((.str "payload" :: .str tt :: .int sm :: xr).length : Int) = 4
            simp only [List.length_cons, cl, List.length_nil]
            rfl
          · cases z
        obtain ⟨x3, rfl⟩ : ∃ x3, xr = [x3] := by
          have c3 : ((.str "payload" :: .str tt :: .int sm :: xr).length : Int) = 4 := c3
          simp only [List.length_cons] at c3
          match xr, c3 with
          | [x3], _ => exact ⟨x3, rfl⟩
          | [], c3 => exact absurd c3 (by decide)
          | _ :: _ :: _, c3 => simp only [List.length_cons] at c3; omega
        obtain ⟨d3, dr', rfl, hx3, g3⟩ := DpAll.one g2
        obtain rfl := DpAll.zero g3
        have hx3 := Dp.same s1 hx3
        clear c3 cl g3 g2
        repeat (first | (refine And.intro ?_ ?_; · (first | exact rfl | (show (_ : Int) ≤ _; omega) | (show (_ : Int) < _; omega) | assumption | exact SqL.of upd_same | exact SqT.of upd_same | exact upd_same | exact Drew.at_ (by assumption) | exact at_of (j := 0) rfl rfl | exact at_of (j := 1) rfl rfl | exact at_of (j := 2) rfl rfl | exact at_of (j := 3) rfl rfl | exact .inr (by assumption) | exact .inl (by assumption) | exact .ty _ | exact dp_ty (by assumption) | exact kit_strD _ | exact kit_tupD _ | exact kit_intD _ | exact kit_boolD _ | exact ⟨_, rfl⟩ | decide | omega | exact (show 0 ≤ sizeLine by decide) | exact (show 1 ≤ sizeLine by decide) | exact (show 2 ≤ sizeLine by decide) | exact (show 3 ≤ sizeLine by decide) | exact (show 4 ≤ sizeLine by decide) | exact (show 5 ≤ sizeLine by decide) | exact (show 6 ≤ sizeLine by decide) | decide +kernel)) | apply Exists.intro | refine iteT ?_ | refine iteF ?_)
        refine iteB (fun c4 => ?_) (fun c4 => ?_)
        · repeat (first | (refine And.intro ?_ ?_; · (first | exact rfl | (show (_ : Int) ≤ _; omega) | (show (_ : Int) < _; omega) | assumption | exact SqL.of upd_same | exact SqT.of upd_same | exact upd_same | exact Drew.at_ (by assumption) | exact at_of (j := 0) rfl rfl | exact at_of (j := 1) rfl rfl | exact at_of (j := 2) rfl rfl | exact at_of (j := 3) rfl rfl | exact .inr (by assumption) | exact .inl (by assumption) | exact .ty _ | exact dp_ty (by assumption) | exact kit_strD _ | exact kit_tupD _ | exact kit_intD _ | exact kit_boolD _ | exact ⟨_, rfl⟩ | decide | omega | exact (show 0 ≤ sizeLine by decide) | exact (show 1 ≤ sizeLine by decide) | exact (show 2 ≤ sizeLine by decide) | exact (show 3 ≤ sizeLine by decide) | exact (show 4 ≤ sizeLine by decide) | exact (show 5 ≤ sizeLine by decide) | exact (show 6 ≤ sizeLine by decide) | decide +kernel)) | apply Exists.intro | refine iteT ?_ | refine iteF ?_)
          refine fin _ s1 fun ⟨ds', z⟩ => ?_
          rcases z with ⟨z, t, bd, n, b', ws', z2, _, _, k0, k1, _⟩ | ⟨z, _⟩
          · cases z
            cases z2
            exact inR_no c4 ⟨k0, k1⟩
          · cases z
        obtain ⟨n, rfl, n0, n1⟩ := inR_int c4
        cases hx3
        refine run a q l u _ _ _ ys tt e sm n b ws H1 h11 he1 hpg gl ht ok b0 b1 n0 n1 m0 m1 w6 er (fun r H' h s => k r H' (h.trans ⟨fun z => ⟨_, .inl ⟨rfl, z⟩⟩, fun ⟨ds', z⟩ => ?_⟩) (fun x o y => s _ _ (s1 _ _ y)))
        rcases z with ⟨z, zz⟩ | ⟨z, _⟩
        · cases z
          exact zz
        · cases z
      · refine ifn (fun _ => ?_) (fun c => absurd (by cases c; rfl) ep)
        refine fin _ s1 fun ⟨ds', z⟩ => ?_
        rcases z with ⟨z, _⟩ | ⟨z, _⟩
        · cases z
          exact ep rfl
        · cases z
          exact em rfl
end
/-! ### a tuple, or a thing, with something otherwise -/
section
variable {P : Program} {w : World} {K : PySem.W.Frag} {mg : Str → Option Value} {base : Heap}
theorem Prom.any {x : Str} {st : Stmt} {ps : List Str} {sp : Nat → Sp} {M : Nat} (h : ∀ m : Nat, Prom P w K mg base CX0 (m + 2) x st ps (sp m)) : Prom P w K mg base CX0 (M + 2) x st ps (fun vs H Q E => ∃ m : Nat, m ≤ M ∧ sp m vs H Q E) := by
  obtain ⟨f, fd, F, hm, D, B⟩ := (h 0).ex
  have key : ∀ m : Nat, FnOk P w K mg base CX0 (m + 2) f fd ps (sp m) := fun m => by
    obtain ⟨f', fd', F', hm', D', B'⟩ := (h m).ex
    have e : f' = f := by
      rw [hm] at hm'
      injection hm' with hm'
      injection hm' with hm'
      exact hm'.symm
    subst e
    obtain ⟨_, _, _, _, _, _, _, _, _, _, _, l1, _⟩ := D.ex
    obtain ⟨_, _, _, _, _, _, _, _, _, _, _, l2, _⟩ := D'.ex
    rw [l1] at l2
    injection l2 with l2
    injection l2 with _ _ l2 _
    injection l2 with l2
    subst l2
    exact F'
  refine ⟨f, fd, ⟨fun vs H Q E z => ?_, fun A outer s H args us vs Q E hr he hb hv z => ?_⟩, hm, D, B⟩
  · obtain ⟨m, _, z⟩ := z
    exact (key m).len vs H Q E z
  · obtain ⟨m, hm, z⟩ := z
    exact (key m).run A outer s H args us vs Q E (hr.mono (by omega)) he hb hv z
theorem Prom.weak {x : Str} {st : Stmt} {ps : List Str} {sp sp' : Sp} {k : Nat} (G : Prom P w K mg base CX0 k x st ps sp) (h : ∀ vs H Q E, sp' vs H Q E → sp vs H Q E) : Prom P w K mg base CX0 k x st ps sp' := by
  obtain ⟨f, fd, F, hm, D, B⟩ := G.ex
  exact ⟨f, fd, ⟨fun vs H Q E z => F.len vs H Q E (h _ _ _ _ z), fun A outer s H args us vs Q E hr he hb hv z => F.run A outer s H args us vs Q E hr he hb hv (h _ _ _ _ z)⟩, hm, D, B⟩
def spB (K : PySem.W.Frag) : Nat → Sp
  | 0 => spBent0 K
  | 1 => spBent K
  | _ => spNone
def spBentU (K : PySem.W.Frag) : Sp := fun vs H Q E => spBent0 K vs H Q E ∨ spBent K vs H Q E
theorem bent_all (T : Tx w K mg) : ∀ m : Nat, Prom P w K mg base CX0 (m + 2) "_law_bent" s_L_bent ["_law_pool_here", "_law_thing"] (spB K m)
  | 0 => bent_zero T
  | 1 => ok_L_bent T
  | m + 2 => Prom.of T.d_L_bent sc_L_bent (fun vs H Q E h => absurd h id) (fun _ _ _ _ _ _ us hl => match us, hl with | [_, _], _ => rfl) (fun f cdv A outer s H vs Q E hr h => absurd h id)
theorem ok_bentU (T : Tx w K mg) : Prom P w K mg base CX0 3 "_law_bent" s_L_bent ["_law_pool_here", "_law_thing"] (spBentU K) :=
  Prom.weak (Prom.any (M := 1) (bent_all T)) fun vs H Q E h => by
    rcases h with h | h
    · exact ⟨0, by decide, h⟩
    · exact ⟨1, by decide, h⟩
end
/-! ### the law: claims and pages, and some like them -/
def words2 : List Str := ["payload", "missed"]
def goodW (s : Str) : Bool := !(s == "other") && !(s == "longer") && !(s == "size") && !(s == "doubled") && !(s == "stopped")
theorem good_ne {s : Str} (h : goodW s = true) : s ≠ "other" ∧ s ≠ "longer" ∧ s ≠ "size" ∧ s ≠ "doubled" ∧ s ≠ "stopped" := by
  unfold goodW at h
  simp only [Bool.and_eq_true, Bool.not_eq_true', beq_eq_false_iff_ne] at h
  exact ⟨h.1.1.1.1, h.1.1.1.2, h.1.1.2, h.1.2, h.2⟩
theorem off_all : words2.all (fun w => (List.range (w.length + 1)).all fun a => signs.cps.toList.all fun c => goodW (cutS w none (some (a : Int)) ++ ⟨#[c]⟩ ++ cutS w (some (a : Int)) none) && goodW (cutS w none (some (a : Int)) ++ cutS w (some ((a : Int) + 1)) none) && goodW (cutS w none (some (a : Int)) ++ ⟨#[c]⟩ ++ cutS w (some ((a : Int) + 1)) none)) = true := by decide +kernel
theorem off_split : words2.all (fun w => (Txt.split w "\n").all fun u => goodW (w ++ "\n" ++ u)) = true := by decide +kernel
theorem off_good {w t : Str} (hw : w ∈ words2) (h : OneOff w t) : goodW t = true := by
  rcases h with ⟨a, c, ha, hc, h⟩ | ⟨u, hu, rfl⟩
  · have k := List.all_eq_true.mp off_all w hw
    have k := List.all_eq_true.mp k a (List.mem_range.mpr (by omega))
    have k := List.all_eq_true.mp k c hc
    simp only [Bool.and_eq_true] at k
    rcases h with rfl | rfl | rfl
    · exact k.1.1
    · exact k.1.2
    · exact k.2
  · exact List.all_eq_true.mp (List.all_eq_true.mp off_split w hw) u hu
theorem words_good : words2.all goodW = true := by decide +kernel
theorem b_good {s : Str} (h : (TL.tl s)[0]? = some 98) : goodW s = true := by
  have key : ∀ w : Str, (TL.tl w)[0]? ≠ some 98 → s ≠ w := fun w hw e => hw (e ▸ h)
  unfold goodW
  rw [beq_eq_false_iff_ne.mpr (key "other" (by decide +kernel)), beq_eq_false_iff_ne.mpr (key "longer" (by decide +kernel)), beq_eq_false_iff_ne.mpr (key "size" (by decide +kernel)), beq_eq_false_iff_ne.mpr (key "doubled" (by decide +kernel)), beq_eq_false_iff_ne.mpr (key "stopped" (by decide +kernel))]
  rfl
/-- a claim: a word, the text of a stack, integers -/
def Clm (xs : List V) : Prop := ∃ (w s : Str) (x : Int) (ns : List Int), xs = .str w :: .str s :: .int x :: ns.map V.int ∧ ns.length ≤ 1 ∧ w ∈ words2 ∧ (TL.tl s)[0]? = some 98 ∧ ∀ v ∈ xs, LeafOk v
def ThgOk (d : PyData) : Prop := WordOk d ∧ HeadOk d ∧ LTexts d
theorem ltexts {d : PyData} (h : LTexts d) : TextsOk d := fun ds e x hx s es => Nat.le_trans (h ds e x hx s es) (by decide)
theorem num_len {i : Int} (h0 : -10 ^ 100 ≤ i) (h1 : i ≤ 10 ^ 100) : (Str.ofString (toString i)).length ≤ 640 := by
  have h := int_text_length_le10 (a := i) (k := 101) (by decide) (by
    have : i.natAbs ≤ 10 ^ 100 := by omega
    exact Nat.lt_of_le_of_lt this (by decide))
  rw [PySem.ofString_length]
  omega
theorem map_int (ns : List Int) : (ns.map V.int).map dOf = ns.map PyData.int := by
  rw [List.map_map]
  rfl
theorem clm_ok {xs : List V} (h : Clm xs) : ThgOk (.tuple (xs.map dOf)) := by
  obtain ⟨w, s, x, ns, rfl, nl, hw, hs, hl⟩ := h
  refine ⟨fun z ds e => ?_, fun d0 d1 ds e _ => ?_, fun ds e v hv z ez => ?_⟩
  · have e : PyData.tuple (.str w :: .str s :: .int x :: (ns.map V.int).map dOf) = .tuple (.str z :: ds) := e
    cases e
    exact good_ne (List.all_eq_true.mp words_good w hw)
  · cases e
    exact ⟨w, rfl⟩
  · cases e
    obtain ⟨u, hu, eu⟩ := List.mem_map.mp hv
    subst ez
    rcases hl u hu with ⟨i, rfl, _⟩ | ⟨t, rfl, ht, _⟩
    · cases eu
    · cases eu
      omega
theorem bent_len {e d : PyData} {v : V} (hv : LeafOk v) (he : e = dOf v) (h : Bent0 e d) : ∀ z, d = .str z → z.length ≤ 640 := by
  intro z ez
  subst ez
  rcases h with ⟨i, e1, h⟩ | ⟨s, t, e1, e2, h⟩
  · rcases hv with ⟨j, rfl, j0, j1⟩ | ⟨t, rfl, _⟩
    · rw [he] at e1
      cases e1
      rcases h with h | h | h | h | h | h | h | h <;> cases h
      exact num_len j0 j1
    · rw [he] at e1
      cases e1
  · cases e2
    rcases hv with ⟨j, rfl, _⟩ | ⟨t, rfl, hl, _⟩
    · rw [he] at e1
      cases e1
    · rw [he] at e1
      cases e1
      have := one_off_len h
      omega
theorem bent_ok {xs : List V} (h : Clm xs) {d : PyData} (hb : BentT (xs.map dOf) d) : ThgOk d := by
  obtain ⟨w, s, x, ns, rfl, nl, hw, hs, hl⟩ := id h
  have hmem : ∀ v ∈ ((V.str w :: .str s :: .int x :: ns.map V.int).map dOf), ∀ z, v = .str z → z.length ≤ 640 := fun v hv z ez => (clm_ok h).2.2 _ rfl v hv z ez
  have gw := good_ne (List.all_eq_true.mp words_good w hw)
  have gs := good_ne (b_good hs)
  have em : (V.str w :: .str s :: .int x :: ns.map V.int).map dOf = .str w :: .str s :: .int x :: ns.map PyData.int := by
    rw [List.map_cons, List.map_cons, List.map_cons, map_int]
    rfl
  have hd : ∀ {d0 d1 : PyData} {ds es : List PyData}, PyData.tuple (.str w :: es) = .tuple (d0 :: d1 :: ds) → ∃ s, d0 = .str s := fun e => by
    cases e
    exact ⟨w, rfl⟩
  have triv : ∀ {d : PyData}, (∀ d0 d1 ds, d ≠ .tuple (d0 :: d1 :: ds)) → (∀ s ds, d ≠ .tuple (.str s :: ds)) → (∀ ds, d = .tuple ds → ∀ x ∈ ds, ∀ s, x ≠ .str s) → ThgOk d := fun h1 h2 h3 => ⟨fun s ds e => absurd e (h2 s ds), fun d0 d1 ds e _ => absurd e (h1 d0 d1 ds), fun ds e x hx s es => absurd es (h3 ds e x hx s)⟩
  rcases hb with rfl | rfl | rfl | rfl | ⟨i, e, he, hb⟩
  · exact triv (fun _ _ _ z => by cases z) (fun _ _ z => by cases z) (fun _ z => by cases z)
  · exact triv (fun _ _ _ z => by cases z) (fun _ _ z => by cases z) (fun _ z x hx s es => by cases z; rw [List.mem_singleton.mp hx] at es; cases es)
  · exact triv (fun _ _ _ z => by cases z) (fun _ _ z => by cases z) (fun _ z => by cases z)
  · exact triv (fun _ _ _ z => by cases z) (fun _ _ z => by cases z) (fun _ z => by cases z)
  rcases hb with rfl | rfl | ⟨e', rfl, hb⟩
  · refine ⟨fun z ds e => ?_, fun d0 d1 ds e h1 => ?_, fun ds e v hv z ez => ?_⟩
    · rw [em] at e
      match i with
      | 0 => cases e; exact gs
      | i + 1 => cases e; exact gw
    · rw [em] at e
      match i with
      | 0 => cases e; cases h1
      | i + 1 => exact hd e
    · cases e
      rcases List.mem_append.mp hv with h | h
      · exact hmem v (List.mem_of_mem_take h) z ez
      · exact hmem v (List.mem_of_mem_drop h) z ez
  · refine ⟨fun z ds e2 => ?_, fun d0 d1 ds e2 h1 => ?_, fun ds e2 v hv z ez => ?_⟩
    · rw [em] at e2 he
      match i, he with
      | 0, he => cases he; cases e2; exact gw
      | i + 1, _ => cases e2; exact gw
    · rw [em] at e2 he
      match i, he with
      | 0, he => cases he; exact hd e2
      | i + 1, _ => exact hd e2
    · cases e2
      rcases List.mem_append.mp hv with h | h
      · exact hmem v (List.mem_of_mem_take h) z ez
      · rcases List.mem_cons.mp h with rfl | h
        · exact hmem _ (List.mem_of_getElem? he) z ez
        · exact hmem v (List.mem_of_mem_drop h) z ez
  · obtain ⟨u, hu, rfl⟩ : ∃ u, (V.str w :: .str s :: .int x :: ns.map V.int)[i]? = some u ∧ dOf u = e := by
      rw [List.getElem?_map] at he
      cases e : (V.str w :: .str s :: .int x :: ns.map V.int)[i]? with
      | none => rw [e] at he; cases he
      | some u => rw [e] at he; exact ⟨u, rfl, Option.some.inj he⟩
    have bl := bent_len (hl u (List.mem_of_getElem? hu)) rfl hb
    refine ⟨fun z ds e => ?_, fun d0 d1 ds e h1 => ?_, fun ds e v hv z ez => ?_⟩
    · rw [em] at e
      match i, hu with
      | 0, hu =>
        cases hu
        rcases hb with ⟨_, e1, _⟩ | ⟨s1, t1, e1, e2, ho⟩
        · cases e1
        · cases e1
          subst e2
          cases e
          exact good_ne (off_good hw ho)
      | i + 1, _ => cases e; exact gw
    · rw [em] at e
      match i, hu with
      | 0, hu =>
        cases hu
        rcases hb with ⟨_, e1, _⟩ | ⟨s1, t1, e1, e2, ho⟩
        · cases e1
        · subst e2
          cases e
          exact ⟨_, rfl⟩
      | i + 1, _ => exact hd e
    · cases e
      rcases List.mem_append.mp hv with h | h
      · exact hmem v (List.mem_of_mem_take h) z ez
      · rcases List.mem_cons.mp h with rfl | h
        · exact bl z ez
        · exact hmem v (List.mem_of_mem_drop h) z ez
/-- pages: a tuple of integers, or an integer -/
theorem el_shp {d : PyData} (h : PgEl d) : Shp d 1 := by
  obtain ⟨i, i0, i1, h⟩ := h
  rcases h with rfl | rfl | rfl | rfl
  · exact (shp_int i).mono (by decide)
  · refine (shp_str (ok_mem.mpr fun c hc => ?_)).mono (by decide)
    have := tl_int i c hc
    omega
  · exact shp_ints_t [i]
  · exact shp_none.mono (by decide)
theorem page_tup {es : List PyData} (h : ∀ x ∈ es, PgEl x) (hl : es.length ≤ 10) : PageOk (.tuple es) :=
  ⟨(shp_tuple (k := 1) fun d hd => el_shp (h d hd)).shaped, fun es' e => by cases e; exact ⟨hl, h⟩⟩
theorem page_el {d : PyData} (h : PgEl d) : PageOk d := by
  refine ⟨(el_shp h).shaped, fun es e => ?_⟩
  subst e
  obtain ⟨i, i0, i1, h⟩ := h
  rcases h with h | h | h | h <;> cases h
  exact ⟨(by show 1 ≤ 10; decide), fun x hx => by rw [List.mem_singleton.mp hx]; exact ⟨i, i0, i1, .inl rfl⟩⟩
theorem bent_el {i : Int} (h0 : -10 ^ 100 ≤ i) (h1 : i ≤ 10 ^ 100) {d : PyData} (h : BentI i d) : PgEl d := by
  rcases h with rfl | rfl | rfl | rfl | rfl | rfl | rfl | rfl
  · exact ⟨_, by omega, by omega, .inl rfl⟩
  · exact ⟨_, by omega, by omega, .inl rfl⟩
  · exact ⟨_, by omega, by omega, .inl rfl⟩
  · exact ⟨_, by omega, by omega, .inl rfl⟩
  · exact ⟨_, by omega, by omega, .inl rfl⟩
  · exact ⟨i, by omega, by omega, .inr (.inl rfl)⟩
  · exact ⟨i, by omega, by omega, .inr (.inr (.inl rfl))⟩
  · exact ⟨i, by omega, by omega, .inr (.inr (.inr rfl))⟩
def PgT (ns : List Int) : Prop := ns.length ≤ 3 ∧ ∀ i ∈ ns, -10 ^ 100 ≤ i ∧ i ≤ 10 ^ 100
theorem pgt_ok {ns : List Int} (h : PgT ns) : PageOk (.tuple (ns.map PyData.int)) := by
  refine page_tup (fun x hx => ?_) (by rw [List.length_map]; exact Nat.le_trans h.1 (by decide))
  obtain ⟨i, hi, rfl⟩ := List.mem_map.mp hx
  have := h.2 i hi
  exact ⟨i, by omega, by omega, .inl rfl⟩
theorem pgt_bent {ns : List Int} (h : PgT ns) {d : PyData} (hb : BentT (ns.map PyData.int) d) : PageOk d := by
  have el : ∀ x ∈ ns.map PyData.int, PgEl x := fun x hx => by
    obtain ⟨i, hi, rfl⟩ := List.mem_map.mp hx
    have := h.2 i hi
    exact ⟨i, by omega, by omega, .inl rfl⟩
  have nl := h.1
  have zero : PgEl (.int 0) := ⟨0, by decide, by decide, .inl rfl⟩
  rcases hb with rfl | rfl | rfl | rfl | ⟨i, e, he, hb⟩
  · exact ⟨rfl, fun _ z => by cases z⟩
  · exact page_tup (es := [.int 0]) (fun x hx => by rw [List.mem_singleton.mp hx]; exact zero) (by show 1 ≤ 10; decide)
  · exact ⟨rfl, fun _ z => by cases z⟩
  · exact ⟨rfl, fun _ z => by cases z⟩
  rcases hb with rfl | rfl | ⟨e', rfl, hb⟩
  · refine page_tup (fun x hx => ?_) (by rw [List.length_append, List.length_take, List.length_drop, List.length_map]; omega)
    rcases List.mem_append.mp hx with h | h
    · exact el x (List.mem_of_mem_take h)
    · exact el x (List.mem_of_mem_drop h)
  · refine page_tup (fun x hx => ?_) (by rw [List.length_append, List.length_cons, List.length_take, List.length_drop, List.length_map]; omega)
    rcases List.mem_append.mp hx with h | h
    · exact el x (List.mem_of_mem_take h)
    · rcases List.mem_cons.mp h with rfl | h
      · exact el _ (List.mem_of_getElem? he)
      · exact el x (List.mem_of_mem_drop h)
  · refine page_tup (fun x hx => ?_) (by rw [List.length_append, List.length_cons, List.length_take, List.length_drop, List.length_map]; omega)
    rcases List.mem_append.mp hx with h' | h'
    · exact el x (List.mem_of_mem_take h')
    · rcases List.mem_cons.mp h' with rfl | h'
      · obtain ⟨j, hj, ej⟩ := List.mem_map.mp (List.mem_of_getElem? he)
        subst ej
        rcases hb with ⟨j', e1, hb⟩ | ⟨_, _, e1, _⟩
        · cases e1
          exact bent_el (h.2 j hj).1 (h.2 j hj).2 hb
        · cases e1
      · exact el x (List.mem_of_mem_drop h')
def PageV (K : PySem.W.Frag) (H : Hp) (u : V) (e : PyData) : Prop := (∃ b ns, u = .ref b ∧ e = .tuple (ns.map PyData.int) ∧ SqT K H b (ns.map V.int) ∧ PgT ns) ∨ ∃ i : Int, u = .int i ∧ e = .int i ∧ -10 ^ 100 ≤ i ∧ i ≤ 10 ^ 100
theorem PageV.dp {K : PySem.W.Frag} {H : Hp} {u : V} {e : PyData} (h : PageV K H u e) : Dp K H u e ∧ PageOk e := by
  rcases h with ⟨b, ns, rfl, rfl, h, hn⟩ | ⟨i, rfl, rfl, h0, h1⟩
  · exact ⟨.tup h (dp_ints _), pgt_ok hn⟩
  · exact ⟨.int i, page_el ⟨i, by omega, by omega, .inl rfl⟩⟩
theorem PageV.drew {K : PySem.W.Frag} {p : Addr} {H H' : Hp} {u : V} {e : PyData} (h : PageV K H u e) (hp : PurseAt H p) (d : Drew p H H') : PageV K H' u e := by
  rcases h with ⟨b, ns, rfl, rfl, h, hn⟩ | h
  · exact .inl ⟨b, ns, rfl, rfl, drew_sqT hp d h, hn⟩
  · exact .inr h
theorem PageV.same {K : PySem.W.Frag} {H H' : Hp} {u : V} {e : PyData} (h : PageV K H u e) (s : Same H H') : PageV K H' u e := by
  rcases h with ⟨b, ns, rfl, rfl, h, hn⟩ | h
  · exact .inl ⟨b, ns, rfl, rfl, sqT_same s h, hn⟩
  · exact .inr h
def spJudged (K : PySem.W.Frag) : Sp := fun vs H Q _ => ∃ (p a : Addr) (u : V) (xs : List V) (e : PyData), vs = [.ref p, .ref a, u] ∧ PurseAt H p ∧ SqT K H a xs ∧ Clm xs ∧ PageV K H u e ∧ ∀ H', Drew p H H' → Q (.bl true) H'
theorem bools_sho (r : Bool) : (PyData.list [.bool r, .bool r]).showable = true ∧ (PyData.list [.bool r, .bool r]).hasDict = false ∧ (PyData.list [.bool r, .bool r]).depth ≤ 40 ∧ (PyData.list [.bool r, .bool r]).shown.length ≤ sizeLine := by
  cases r <;> decide +kernel
section
variable {P : Program} {w : World} {K : PySem.W.Frag} {mg : Str → Option Value} {base : Heap}
theorem ok_L_judged_right (T : Tx w K mg) : PromG P w K mg base 12 "_law_judged_right" s_L_judged_right ["_law_pool_here", "_law_claim_here", "_law_page_here"] (spJudged K) := by
  refine PromG.of T.d_L_judged_right sc_L_judged_right (fun vs H Q E h => ?_) (fun _ _ _ _ _ _ us hl => match us, hl with | [_, _, _], _ => rfl) (fun f cdv A outer s H vs Q E hr hgd h => ?_)
  · obtain ⟨p, a, u, xs, e, rfl, _⟩ := h
    rfl
  · obtain ⟨p, a, u, xs, e, rfl, hp, hS, hc, hv, k⟩ := h
    have R := ok_bentU (P := P) (w := w) (base := base) T
    refine ⟨_, (pss_cons (ps_set (i := 3) sc_L_judged_right.nd rfl (Or.inl rfl) (pe_lst (pa_cons (pe_callP (ok_holds T) (hr.mono (by decide)) (by rfl) pass0 (pa_cons (pv 1) (pa_cons (pv 2) pa_nil))) (pa_cons (pe_callKP (ok_holds T) (hr.mono (by decide)) (by rfl) (ks := ["paper", "claim"]) (kb_of [1, 0] (by decide) (fun _ _ _ _ _ _ ws hl => match ws, hl with | [_, _], _ => rfl)) pass0 (pk_cons (pv 2) (pk_cons (pv 1) pk_nil))) pa_nil))))
      (pss_cons (ps_if (pt_cmpR op_ne (pe_callB (cr_reprD hgd hr.units) (by rfl) T.b_repr (by decide +kernel) (pa_cons (pv 3) pa_nil)) (pe_callB (cr_reprD hgd hr.units) (by rfl) T.b_repr (by decide +kernel) (pa_cons (pe_op op_rep (pe_lst (pa_cons (pe_callG (ok_L_truth T) hgd (hr.mono (by decide)) (by rfl) (pa_cons (pv 1) (pa_cons (pv 2) pa_nil))) pa_nil)) pe_int) pa_nil)) (nomark _)) (pss_one (ps_ret pe_bl)) pss_nil)
      (pss_cons (ps_for PassesOwn.never (by rfl) (pi_range1 (by rfl) T.b_range (pa_cons pe_int pa_nil)) (pg_name (i := 4) sc_L_judged_right.nd rfl (Or.inl rfl)) (pss_cons (ps_par (i := 5) (j := 6) (by rfl) sc_L_judged_right.nd rfl rfl (by decide) rfl rfl (pa_cons (pv 1) (pa_cons (pv 2) pa_nil)) (by rfl))
      (pss_cons (ps_mid (ps_if (pt_cmp (pc_eqI (pe_callP (ok_L_draw T) (hr.mono (by decide)) (by rfl) pass0 (pa_cons (pv 0) (pa_cons pe_int pa_nil))) pe_int)) (pss_one (ps_set (i := 5) sc_L_judged_right.nd rfl (Or.inl rfl) (pe_callP R (hr.mono (by decide)) (by rfl) pass0 (pa_cons (pv 0) (pa_cons (pv 1) pa_nil))))) (pss_one (ps_set (i := 6) sc_L_judged_right.nd rfl (Or.inl rfl) (pe_callP R (hr.mono (by decide)) (by rfl) pass0 (pa_cons (pv 0) (pa_cons (pv 2) pa_nil)))))))
      (pss_one (ps_if (pt_cmpR op_ne (pe_callB cr_repr (by rfl) T.b_repr (by decide +kernel) (pa_cons (pe_callP (ok_holds T) (hr.mono (by decide)) (by rfl) pass0 (pa_cons (pv 5) (pa_cons (pv 6) pa_nil))) pa_nil)) (pe_callB cr_repr (by rfl) T.b_repr (by decide +kernel) (pa_cons (pe_callG (ok_L_truth T) hgd (hr.mono (by decide)) (by rfl) (pa_cons (pv 5) (pa_cons (pv 6) pa_nil))) pa_nil)) (nomark _)) (pss_one (ps_ret pe_bl)) pss_nil)))))
      (pss_one (ps_ret pe_bl))))), ?_⟩
    obtain ⟨c1, c2, c3⟩ := clm_ok hc
    have c4 := ltexts c3
    have hl : ∀ v ∈ xs, LeafOk v := by
      obtain ⟨w, s, x, ns, rfl, _, _, _, h⟩ := id hc
      exact h
    have x6 : xs.length ≤ 6 := by
      obtain ⟨w, s, x, ns, rfl, nl, _⟩ := hc
      simp only [List.length_cons, List.length_map]
      omega
    have same_r : ∀ {r1 r2 : Bool} {d e : PyData}, (r1 = true ↔ HoldsM d e) → (r2 = true ↔ HoldsM d e) → r1 = r2 := fun {r1 r2 d e} h1 h2 => by
      have h := h1.trans h2.symm
      cases r1 <;> cases r2 <;> simp at h <;> rfl
    have hd : Dp K H (.ref a) (.tuple (xs.map dOf)) := .tup hS (dp_els hl)
    obtain ⟨he, pg⟩ := hv.dp
    repeat (first | (refine And.intro ?_ ?_; · (first | exact rfl | (show (_ : Int) ≤ _; omega) | (show (_ : Int) < _; omega) | assumption | exact SqL.of upd_same | exact SqT.of upd_same | exact upd_same | exact Drew.at_ (by assumption) | exact at_of (j := 0) rfl rfl | exact at_of (j := 1) rfl rfl | exact at_of (j := 2) rfl rfl | exact at_of (j := 3) rfl rfl | exact .inr (by assumption) | exact .inl (by assumption) | exact .ty _ | exact dp_ty (by assumption) | exact kit_strD _ | exact kit_tupD _ | exact kit_intD _ | exact kit_boolD _ | exact ⟨_, rfl⟩ | decide | omega | exact (show 0 ≤ sizeLine by decide) | exact (show 1 ≤ sizeLine by decide) | exact (show 2 ≤ sizeLine by decide) | exact (show 3 ≤ sizeLine by decide) | exact (show 4 ≤ sizeLine by decide) | exact (show 5 ≤ sizeLine by decide) | exact (show 6 ≤ sizeLine by decide) | decide +kernel)) | apply Exists.intro | refine iteT ?_ | refine iteF ?_)
    intro r1 H1 h1 s1
    have hd1 := Dp.same s1 hd
    have he1 := Dp.same s1 he
    repeat (first | (refine And.intro ?_ ?_; · (first | exact rfl | (show (_ : Int) ≤ _; omega) | (show (_ : Int) < _; omega) | assumption | exact SqL.of upd_same | exact SqT.of upd_same | exact upd_same | exact Drew.at_ (by assumption) | exact at_of (j := 0) rfl rfl | exact at_of (j := 1) rfl rfl | exact at_of (j := 2) rfl rfl | exact at_of (j := 3) rfl rfl | exact .inr (by assumption) | exact .inl (by assumption) | exact .ty _ | exact dp_ty (by assumption) | exact kit_strD _ | exact kit_tupD _ | exact kit_intD _ | exact kit_boolD _ | exact ⟨_, rfl⟩ | decide | omega | exact (show 0 ≤ sizeLine by decide) | exact (show 1 ≤ sizeLine by decide) | exact (show 2 ≤ sizeLine by decide) | exact (show 3 ≤ sizeLine by decide) | exact (show 4 ≤ sizeLine by decide) | exact (show 5 ≤ sizeLine by decide) | exact (show 6 ≤ sizeLine by decide) | decide +kernel)) | apply Exists.intro | refine iteT ?_ | refine iteF ?_)
    intro r2 H2 h2 s2
    obtain rfl := same_r h1 h2
    have s02 : Same H H2 := fun x o y => s2 _ _ (s1 _ _ y)
    repeat (first | (refine And.intro ?_ ?_; · (first | exact rfl | (show (_ : Int) ≤ _; omega) | (show (_ : Int) < _; omega) | assumption | exact SqL.of upd_same | exact SqT.of upd_same | exact upd_same | exact Drew.at_ (by assumption) | exact at_of (j := 0) rfl rfl | exact at_of (j := 1) rfl rfl | exact at_of (j := 2) rfl rfl | exact at_of (j := 3) rfl rfl | exact .inr (by assumption) | exact .inl (by assumption) | exact .ty _ | exact dp_ty (by assumption) | exact kit_strD _ | exact kit_tupD _ | exact kit_intD _ | exact kit_boolD _ | exact ⟨_, rfl⟩ | decide | omega | exact (show 0 ≤ sizeLine by decide) | exact (show 1 ≤ sizeLine by decide) | exact (show 2 ≤ sizeLine by decide) | exact (show 3 ≤ sizeLine by decide) | exact (show 4 ≤ sizeLine by decide) | exact (show 5 ≤ sizeLine by decide) | exact (show 6 ≤ sizeLine by decide) | decide +kernel)) | apply Exists.intro | refine iteT ?_ | refine iteF ?_)
    intro p1 hp1
    have zH3 : Same H2 (upd H2 p1 (.lst [.bl r1, .bl r1])) := up hp1
    have sH3 : Same H (upd H2 p1 (.lst [.bl r1, .bl r1])) := fun x o e => zH3 _ _ (s02 _ _ e)
    have gp1 : upd H2 p1 (.lst [.bl r1, .bl r1]) p1 = some (.lst [.bl r1, .bl r1]) := upd_same
    generalize upd H2 p1 (.lst [.bl r1, .bl r1]) = H3 at *
    obtain ⟨f1, f2, f3, f4⟩ := bools_sho r1
    repeat (first | (refine And.intro ?_ ?_; · (first | exact rfl | (show (_ : Int) ≤ _; omega) | (show (_ : Int) < _; omega) | assumption | exact SqL.of upd_same | exact SqT.of upd_same | exact upd_same | exact Drew.at_ (by assumption) | exact at_of (j := 0) rfl rfl | exact at_of (j := 1) rfl rfl | exact at_of (j := 2) rfl rfl | exact at_of (j := 3) rfl rfl | exact .inr (by assumption) | exact .inl (by assumption) | exact .ty _ | exact dp_ty (by assumption) | exact kit_strD _ | exact kit_tupD _ | exact kit_intD _ | exact kit_boolD _ | exact ⟨_, rfl⟩ | decide | omega | exact (show 0 ≤ sizeLine by decide) | exact (show 1 ≤ sizeLine by decide) | exact (show 2 ≤ sizeLine by decide) | exact (show 3 ≤ sizeLine by decide) | exact (show 4 ≤ sizeLine by decide) | exact (show 5 ≤ sizeLine by decide) | exact (show 6 ≤ sizeLine by decide) | decide +kernel)) | apply Exists.intro | refine iteT ?_ | refine iteF ?_)
    refine ⟨(.lst (SqL.of gp1) (.cons (.bl r1) (.cons (.bl r1) .nil)) : Dp K H3 (.ref p1) (.list [.bool r1, .bool r1])), f1, f2, f3, f4, ?_⟩
    have hd3 := Dp.same sH3 hd
    have he3 := Dp.same sH3 he
    repeat (first | (refine And.intro ?_ ?_; · (first | exact rfl | (show (_ : Int) ≤ _; omega) | (show (_ : Int) < _; omega) | assumption | exact SqL.of upd_same | exact SqT.of upd_same | exact upd_same | exact Drew.at_ (by assumption) | exact at_of (j := 0) rfl rfl | exact at_of (j := 1) rfl rfl | exact at_of (j := 2) rfl rfl | exact at_of (j := 3) rfl rfl | exact .inr (by assumption) | exact .inl (by assumption) | exact .ty _ | exact dp_ty (by assumption) | exact kit_strD _ | exact kit_tupD _ | exact kit_intD _ | exact kit_boolD _ | exact ⟨_, rfl⟩ | decide | omega | exact (show 0 ≤ sizeLine by decide) | exact (show 1 ≤ sizeLine by decide) | exact (show 2 ≤ sizeLine by decide) | exact (show 3 ≤ sizeLine by decide) | exact (show 4 ≤ sizeLine by decide) | exact (show 5 ≤ sizeLine by decide) | exact (show 6 ≤ sizeLine by decide) | decide +kernel)) | apply Exists.intro | refine iteT ?_ | refine iteF ?_)
    intro r3 H4 h3 s4
    obtain rfl := same_r h1 h3
    repeat (first | (refine And.intro ?_ ?_; · (first | exact rfl | (show (_ : Int) ≤ _; omega) | (show (_ : Int) < _; omega) | assumption | exact SqL.of upd_same | exact SqT.of upd_same | exact upd_same | exact Drew.at_ (by assumption) | exact at_of (j := 0) rfl rfl | exact at_of (j := 1) rfl rfl | exact at_of (j := 2) rfl rfl | exact at_of (j := 3) rfl rfl | exact .inr (by assumption) | exact .inl (by assumption) | exact .ty _ | exact dp_ty (by assumption) | exact kit_strD _ | exact kit_tupD _ | exact kit_intD _ | exact kit_boolD _ | exact ⟨_, rfl⟩ | decide | omega | exact (show 0 ≤ sizeLine by decide) | exact (show 1 ≤ sizeLine by decide) | exact (show 2 ≤ sizeLine by decide) | exact (show 3 ≤ sizeLine by decide) | exact (show 4 ≤ sizeLine by decide) | exact (show 5 ≤ sizeLine by decide) | exact (show 6 ≤ sizeLine by decide) | decide +kernel)) | apply Exists.intro | refine iteT ?_ | refine iteF ?_)
    intro p2 hp2
    have zH5 : Same H4 (upd H4 p2 (.lst [.bl r1])) := up hp2
    have sH5 : Same H4 (upd H4 p2 (.lst [.bl r1])) := fun x o e => zH5 _ _ ((Same.refl H4) _ _ e)
    have gp2 : upd H4 p2 (.lst [.bl r1]) p2 = some (.lst [.bl r1]) := upd_same
    generalize upd H4 p2 (.lst [.bl r1]) = H5 at *
    repeat (first | (refine And.intro ?_ ?_; · (first | exact rfl | (show (_ : Int) ≤ _; omega) | (show (_ : Int) < _; omega) | assumption | exact SqL.of upd_same | exact SqT.of upd_same | exact upd_same | exact Drew.at_ (by assumption) | exact at_of (j := 0) rfl rfl | exact at_of (j := 1) rfl rfl | exact at_of (j := 2) rfl rfl | exact at_of (j := 3) rfl rfl | exact .inr (by assumption) | exact .inl (by assumption) | exact .ty _ | exact dp_ty (by assumption) | exact kit_strD _ | exact kit_tupD _ | exact kit_intD _ | exact kit_boolD _ | exact ⟨_, rfl⟩ | decide | omega | exact (show 0 ≤ sizeLine by decide) | exact (show 1 ≤ sizeLine by decide) | exact (show 2 ≤ sizeLine by decide) | exact (show 3 ≤ sizeLine by decide) | exact (show 4 ≤ sizeLine by decide) | exact (show 5 ≤ sizeLine by decide) | exact (show 6 ≤ sizeLine by decide) | decide +kernel)) | apply Exists.intro | refine iteT ?_ | refine iteF ?_)
    intro p3 hp3
    have er : (List.replicate (Int.toNat 2) [V.bl r1]).flatten = [V.bl r1, V.bl r1] := rfl
    rw [er]
    have zH6 : Same H5 (upd H5 p3 (.lst [.bl r1, .bl r1])) := up hp3
    have sH6 : Same H4 (upd H5 p3 (.lst [.bl r1, .bl r1])) := fun x o e => zH6 _ _ (sH5 _ _ e)
    have gp3 : upd H5 p3 (.lst [.bl r1, .bl r1]) p3 = some (.lst [.bl r1, .bl r1]) := upd_same
    generalize upd H5 p3 (.lst [.bl r1, .bl r1]) = H6 at *
    refine ⟨p3, .list [.bool r1, .bool r1], rfl, .lst (SqL.of gp3) (.cons (.bl r1) (.cons (.bl r1) .nil)), f1, f2, f3, f4, ?_⟩
    repeat (first | (refine And.intro ?_ ?_; · (first | exact rfl | (show (_ : Int) ≤ _; omega) | (show (_ : Int) < _; omega) | assumption | exact SqL.of upd_same | exact SqT.of upd_same | exact upd_same | exact Drew.at_ (by assumption) | exact at_of (j := 0) rfl rfl | exact at_of (j := 1) rfl rfl | exact at_of (j := 2) rfl rfl | exact at_of (j := 3) rfl rfl | exact .inr (by assumption) | exact .inl (by assumption) | exact .ty _ | exact dp_ty (by assumption) | exact kit_strD _ | exact kit_tupD _ | exact kit_intD _ | exact kit_boolD _ | exact ⟨_, rfl⟩ | decide | omega | exact (show 0 ≤ sizeLine by decide) | exact (show 1 ≤ sizeLine by decide) | exact (show 2 ≤ sizeLine by decide) | exact (show 3 ≤ sizeLine by decide) | exact (show 4 ≤ sizeLine by decide) | exact (show 5 ≤ sizeLine by decide) | exact (show 6 ≤ sizeLine by decide) | decide +kernel)) | apply Exists.intro | refine iteT ?_ | refine iteF ?_)
    refine ifn (fun c => absurd rfl c) (fun _ => ?_)
    have sH6 : Same H H6 := fun x o y => sH6 _ _ (s4 _ _ (sH3 _ _ y))
    have d6 := (Drew.refl hp).same sH6
    clear h1 h2 h3 s1 s2 s4 s02 sH3 sH5 zH3 zH5 zH6 gp1 gp2 gp3 f1 f2 f3 f4 hd1 he1 hd3 he3
    refine ⟨_, rfl, by decide, by decide, for_range (lo := 0) (fun i σ H' => Drew p H H' ∧ ∃ (v3 v4 v5 v6 : Option V), σ = [some (.ref p), some (.ref a), some u, v3, v4, v5, v6]) ⟨d6, _, none, none, none, rfl⟩ ?_ ?_⟩
    · rintro i σ G hi ⟨d5, v3, v4, v5, v6, rfl⟩
      have hSG := drew_sqT hp d5 hS
      have hvG := hv.drew hp d5
      have hpG := d5.at_
      repeat (first | (refine And.intro ?_ ?_; · (first | exact rfl | (show (_ : Int) ≤ _; omega) | (show (_ : Int) < _; omega) | assumption | exact SqL.of upd_same | exact SqT.of upd_same | exact upd_same | exact Drew.at_ (by assumption) | exact at_of (j := 0) rfl rfl | exact at_of (j := 1) rfl rfl | exact at_of (j := 2) rfl rfl | exact at_of (j := 3) rfl rfl | exact .inr (by assumption) | exact .inl (by assumption) | exact .ty _ | exact dp_ty (by assumption) | exact kit_strD _ | exact kit_tupD _ | exact kit_intD _ | exact kit_boolD _ | exact ⟨_, rfl⟩ | decide | omega | exact (show 0 ≤ sizeLine by decide) | exact (show 1 ≤ sizeLine by decide) | exact (show 2 ≤ sizeLine by decide) | exact (show 3 ≤ sizeLine by decide) | exact (show 4 ≤ sizeLine by decide) | exact (show 5 ≤ sizeLine by decide) | exact (show 6 ≤ sizeLine by decide) | decide +kernel)) | apply Exists.intro | refine iteT ?_ | refine iteF ?_)
      refine ⟨fun σ' H2 (hP : Drew p H H2 ∧ ∃ (vS vP : V) (v3 v4 : Option V) (d e : PyData), Dp K H2 vS d ∧ Dp K H2 vP e ∧ ThgOk d ∧ PageOk e ∧ σ' = [some (.ref p), some (.ref a), some u, v3, v4, some vS, some vP]) => ?_, ?_⟩; rotate_left
      · repeat (first | (refine And.intro ?_ ?_; · (first | exact rfl | (show (_ : Int) ≤ _; omega) | (show (_ : Int) < _; omega) | assumption | exact SqL.of upd_same | exact SqT.of upd_same | exact upd_same | exact Drew.at_ (by assumption) | exact at_of (j := 0) rfl rfl | exact at_of (j := 1) rfl rfl | exact at_of (j := 2) rfl rfl | exact at_of (j := 3) rfl rfl | exact .inr (by assumption) | exact .inl (by assumption) | exact .ty _ | exact dp_ty (by assumption) | exact kit_strD _ | exact kit_tupD _ | exact kit_intD _ | exact kit_boolD _ | exact ⟨_, rfl⟩ | decide | omega | exact (show 0 ≤ sizeLine by decide) | exact (show 1 ≤ sizeLine by decide) | exact (show 2 ≤ sizeLine by decide) | exact (show 3 ≤ sizeLine by decide) | exact (show 4 ≤ sizeLine by decide) | exact (show 5 ≤ sizeLine by decide) | exact (show 6 ≤ sizeLine by decide) | decide +kernel)) | apply Exists.intro | refine iteT ?_ | refine iteF ?_)
        intro r H2 r0 r1' d7
        have d57 := d5.trans d7
        have hp7 := d7.at_
        have hS7 := drew_sqT hpG d7 hSG
        have hv7 := hvG.drew hpG d7
        obtain ⟨he7, _⟩ := hv7.dp
        repeat (first | (refine And.intro ?_ ?_; · (first | exact rfl | (show (_ : Int) ≤ _; omega) | (show (_ : Int) < _; omega) | assumption | exact SqL.of upd_same | exact SqT.of upd_same | exact upd_same | exact Drew.at_ (by assumption) | exact at_of (j := 0) rfl rfl | exact at_of (j := 1) rfl rfl | exact at_of (j := 2) rfl rfl | exact at_of (j := 3) rfl rfl | exact .inr (by assumption) | exact .inl (by assumption) | exact .ty _ | exact dp_ty (by assumption) | exact kit_strD _ | exact kit_tupD _ | exact kit_intD _ | exact kit_boolD _ | exact ⟨_, rfl⟩ | decide | omega | exact (show 0 ≤ sizeLine by decide) | exact (show 1 ≤ sizeLine by decide) | exact (show 2 ≤ sizeLine by decide) | exact (show 3 ≤ sizeLine by decide) | exact (show 4 ≤ sizeLine by decide) | exact (show 5 ≤ sizeLine by decide) | exact (show 6 ≤ sizeLine by decide) | decide +kernel)) | apply Exists.intro | refine iteT ?_ | refine iteF ?_)
        refine ifd (fun c => ?_) (fun c => ?_)
        · refine ⟨_, rfl, _, rfl, .inr ⟨p, a, xs, rfl, hp7, hS7, hl, x6, fun v' d' H3 hv' hb d8 => ?_⟩⟩
          exact ⟨d57.trans d8, v', u, _, _, d', e, hv', (hv7.drew hp7 d8).dp.1, bent_ok hc hb, pg, rfl⟩
        · rcases hv7 with ⟨b, ns, rfl, rfl, hb, hn⟩ | ⟨i2, rfl, rfl, i0, i1⟩
          · refine ⟨_, rfl, _, rfl, .inr ⟨p, b, ns.map V.int, rfl, hp7, hb, fun v hv' => ?_, by rw [List.length_map]; exact Nat.le_trans hn.1 (by decide), fun v' d' H3 hv' hb' d8 => ?_⟩⟩
            · obtain ⟨j, hj, rfl⟩ := List.mem_map.mp hv'
              exact .inl ⟨j, rfl, hn.2 j hj⟩
            · rw [map_int] at hb'
              exact ⟨d57.trans d8, .ref a, v', _, _, _, d', .tup (drew_sqT hp7 d8 hS7) (dp_els hl), hv', ⟨c1, c2, c3⟩, pgt_bent hn hb', rfl⟩
          · refine ⟨_, rfl, _, rfl, .inl ⟨p, .int i2, rfl, hp7, .inl ⟨i2, rfl, i0, i1⟩, fun v' d' H3 hv' hb' d8 => ?_⟩⟩
            rcases hb' with ⟨j, e1, hb'⟩ | ⟨_, _, e1, _⟩
            · cases e1
              exact ⟨d57.trans d8, .ref a, v', _, _, _, d', .tup (drew_sqT hp7 d8 hS7) (dp_els hl), hv', ⟨c1, c2, c3⟩, page_el (bent_el i0 i1 hb'), rfl⟩
            · cases e1
      · obtain ⟨d7, vS, vP, v3, v4, d, e', hd, he, ⟨t1, t2, t3⟩, pe, rfl⟩ := hP
        have tl := ltexts t3
        repeat (first | (refine And.intro ?_ ?_; · (first | exact rfl | (show (_ : Int) ≤ _; omega) | (show (_ : Int) < _; omega) | assumption | exact SqL.of upd_same | exact SqT.of upd_same | exact upd_same | exact Drew.at_ (by assumption) | exact at_of (j := 0) rfl rfl | exact at_of (j := 1) rfl rfl | exact at_of (j := 2) rfl rfl | exact at_of (j := 3) rfl rfl | exact .inr (by assumption) | exact .inl (by assumption) | exact .ty _ | exact dp_ty (by assumption) | exact kit_strD _ | exact kit_tupD _ | exact kit_intD _ | exact kit_boolD _ | exact ⟨_, rfl⟩ | decide | omega | exact (show 0 ≤ sizeLine by decide) | exact (show 1 ≤ sizeLine by decide) | exact (show 2 ≤ sizeLine by decide) | exact (show 3 ≤ sizeLine by decide) | exact (show 4 ≤ sizeLine by decide) | exact (show 5 ≤ sizeLine by decide) | exact (show 6 ≤ sizeLine by decide) | decide +kernel)) | apply Exists.intro | refine iteT ?_ | refine iteF ?_)
        intro r1 K2 h1 s1
        have hd1 := Dp.same s1 hd
        have he1 := Dp.same s1 he
        repeat (first | (refine And.intro ?_ ?_; · (first | exact rfl | (show (_ : Int) ≤ _; omega) | (show (_ : Int) < _; omega) | assumption | exact SqL.of upd_same | exact SqT.of upd_same | exact upd_same | exact Drew.at_ (by assumption) | exact at_of (j := 0) rfl rfl | exact at_of (j := 1) rfl rfl | exact at_of (j := 2) rfl rfl | exact at_of (j := 3) rfl rfl | exact .inr (by assumption) | exact .inl (by assumption) | exact .ty _ | exact dp_ty (by assumption) | exact kit_strD _ | exact kit_tupD _ | exact kit_intD _ | exact kit_boolD _ | exact ⟨_, rfl⟩ | decide | omega | exact (show 0 ≤ sizeLine by decide) | exact (show 1 ≤ sizeLine by decide) | exact (show 2 ≤ sizeLine by decide) | exact (show 3 ≤ sizeLine by decide) | exact (show 4 ≤ sizeLine by decide) | exact (show 5 ≤ sizeLine by decide) | exact (show 6 ≤ sizeLine by decide) | decide +kernel)) | apply Exists.intro | refine iteT ?_ | refine iteF ?_)
        intro r2 K3 h2 s2
        obtain rfl := same_r h1 h2
        refine ⟨_, _, rfl, rfl, ?_⟩
        repeat (first | (refine And.intro ?_ ?_; · (first | exact rfl | (show (_ : Int) ≤ _; omega) | (show (_ : Int) < _; omega) | assumption | exact SqL.of upd_same | exact SqT.of upd_same | exact upd_same | exact Drew.at_ (by assumption) | exact at_of (j := 0) rfl rfl | exact at_of (j := 1) rfl rfl | exact at_of (j := 2) rfl rfl | exact at_of (j := 3) rfl rfl | exact .inr (by assumption) | exact .inl (by assumption) | exact .ty _ | exact dp_ty (by assumption) | exact kit_strD _ | exact kit_tupD _ | exact kit_intD _ | exact kit_boolD _ | exact ⟨_, rfl⟩ | decide | omega | exact (show 0 ≤ sizeLine by decide) | exact (show 1 ≤ sizeLine by decide) | exact (show 2 ≤ sizeLine by decide) | exact (show 3 ≤ sizeLine by decide) | exact (show 4 ≤ sizeLine by decide) | exact (show 5 ≤ sizeLine by decide) | exact (show 6 ≤ sizeLine by decide) | decide +kernel)) | apply Exists.intro | refine iteT ?_ | refine iteF ?_)
        refine ifn (fun c => absurd rfl c) (fun _ => ?_)
        exact ⟨(d7.same s1).same s2, _, _, _, _, rfl⟩
    · rintro σ G ⟨d5, v3, v4, v5, v6, rfl⟩
      repeat (first | (refine And.intro ?_ ?_; · (first | exact rfl | (show (_ : Int) ≤ _; omega) | (show (_ : Int) < _; omega) | assumption | exact SqL.of upd_same | exact SqT.of upd_same | exact upd_same | exact Drew.at_ (by assumption) | exact at_of (j := 0) rfl rfl | exact at_of (j := 1) rfl rfl | exact at_of (j := 2) rfl rfl | exact at_of (j := 3) rfl rfl | exact .inr (by assumption) | exact .inl (by assumption) | exact .ty _ | exact dp_ty (by assumption) | exact kit_strD _ | exact kit_tupD _ | exact kit_intD _ | exact kit_boolD _ | exact ⟨_, rfl⟩ | decide | omega | exact (show 0 ≤ sizeLine by decide) | exact (show 1 ≤ sizeLine by decide) | exact (show 2 ≤ sizeLine by decide) | exact (show 3 ≤ sizeLine by decide) | exact (show 4 ≤ sizeLine by decide) | exact (show 5 ≤ sizeLine by decide) | exact (show 6 ≤ sizeLine by decide) | decide +kernel)) | apply Exists.intro | refine iteT ?_ | refine iteF ?_)
      exact k _ d5
end
theorem sm_drew {p : Addr} {H H1 H2 : Hp} (s : Same H H1) (d : Drew p H1 H2) (h : H p = none) : Same H H2 := fun b o e => d.kp b o (ne_of_none e h) (s b o e)
theorem sm_kp {p : Addr} {H H1 H2 : Hp} (s : Same H H1) (d : Kp p H1 H2) (h : H p = none) : Same H H2 := fun b o e => d b o (ne_of_none e h) (s b o e)
def spRightI : Sp := fun vs H Q _ => ∃ (c : Int), vs = [.int c] ∧ ∀ H', Same H H' → Q (.bl true) H'
def spPlain : Sp := fun vs H Q _ => ∃ (p : Addr) (b : Int), vs = [.ref p, .int b] ∧ PurseAt H p ∧ 2 ≤ b ∧ b ≤ 256 ∧ ∀ H', Drew p H H' → Q (.bl true) H'
section
variable {P : Program} {w : World} {K : PySem.W.Frag} {mg : Str → Option Value} {base : Heap}
set_option maxHeartbeats 4000000 in
theorem ok_L_plain_right (T : Tx w K mg) : PromG P w K mg base 13 "_law_plain_right" s_L_plain_right ["_law_pool_here", "_law_b"] spPlain := by
  refine PromG.of T.d_L_plain_right sc_L_plain_right (fun vs H Q E h => ?_) (fun _ _ _ _ _ _ us hl => match us, hl with | [_, _], _ => rfl) (fun f cdv A outer s H vs Q E hr hgd h => ?_)
  · obtain ⟨p, b, rfl, _⟩ := h
    rfl
  · obtain ⟨p, b, rfl, hp, b0, b1, k⟩ := h
    refine ⟨_, (pss_cons (ps_set (i := 2) sc_L_plain_right.nd rfl (Or.inl rfl) (pe_op op_sub (pe_op op_pow pe_int pe_int) pe_int))
      (pss_cons (ps_set (i := 3) sc_L_plain_right.nd rfl (Or.inl rfl) (pe_ix ix_list (pe_lst (pa_cons (pe_lst pa_nil) (pa_cons (pe_lst (pa_cons (pe_tup (pa_cons pe_str (pa_cons pe_int pa_nil))) pa_nil)) (pa_cons (pe_lst (pa_cons (pe_tup (pa_cons pe_str (pa_cons pe_int (pa_cons pe_int pa_nil)))) (pa_cons (pe_tup (pa_cons pe_str (pa_cons pe_int pa_nil))) pa_nil))) (pa_cons (pe_lst (pa_cons (pe_tup (pa_cons pe_str (pa_cons pe_int (pa_cons pe_int pa_nil)))) pa_nil)) (pa_cons (pe_lst (pa_cons (pe_tup (pa_cons pe_str (pa_cons pe_int pa_nil))) pa_nil)) pa_nil)))))) (pe_callP (ok_L_draw T) (hr.mono (by decide)) (by rfl) pass0 (pa_cons (pv 0) (pa_cons pe_int pa_nil))) (fun _ _ => rfl)))
      (pss_cons (ps_set (i := 4) sc_L_plain_right.nd rfl (Or.inl rfl) (pe_callP (ok_L_lines T) (hr.mono (by decide)) (by rfl) pass0 (pa_cons (pv 3) (pa_cons (pv 1) pa_nil))))
      (pss_cons (ps_for PassesOwn.never (by rfl) (pi_list (pe_lst (pa_cons (pe_tup (pa_cons pe_str (pa_cons (pv 4) (pa_cons (pv 2) (pa_cons (pv 2) pa_nil))))) (pa_cons (pe_tup (pa_cons pe_str (pa_cons (pv 4) (pa_cons (pv 2) (pa_cons (pe_op op_sub (pv 2) pe_int) pa_nil))))) pa_nil)))) (pg_name (i := 5) sc_L_plain_right.nd rfl (Or.inl rfl)) (pss_one (ps_for PassesOwn.never (by rfl) (pi_list (pe_lst (pa_cons (pe_tup (pa_cons (pv 2) pa_nil)) (pa_cons (pe_tup (pa_cons (pv 2) (pa_cons (pe_op op_add (pv 2) pe_int) pa_nil))) (pa_cons (pe_tup (pa_cons (pe_op op_sub (pv 2) pe_int) (pa_cons (pv 2) pa_nil))) (pa_cons (pe_tup pa_nil) (pa_cons (pe_tup (pa_cons (pv 2) (pa_cons pe_non pa_nil))) pa_nil))))))) (pg_name (i := 6) sc_L_plain_right.nd rfl (Or.inl rfl)) (pss_one (ps_if (pt_cmpR op_ne (pe_callB cr_repr (by rfl) T.b_repr (by decide +kernel) (pa_cons (pe_callP (ok_holds T) (hr.mono (by decide)) (by rfl) pass0 (pa_cons (pv 5) (pa_cons (pv 6) pa_nil))) pa_nil)) (pe_callB cr_repr (by rfl) T.b_repr (by decide +kernel) (pa_cons (pe_callG (ok_L_truth T) hgd (hr.mono (by decide)) (by rfl) (pa_cons (pv 5) (pa_cons (pv 6) pa_nil))) pa_nil)) (nomark _)) (pss_one (ps_ret pe_bl)) pss_nil)))))
      (pss_one (ps_ret (pe_callG (ok_L_judged_right T) hgd (hr.mono (by decide)) (by rfl) (pa_cons (pv 0) (pa_cons (pe_tup (pa_cons pe_str (pa_cons (pv 4) (pa_cons (pv 2) (pa_cons (pv 2) pa_nil))))) (pa_cons (pe_tup (pa_cons (pv 2) pa_nil)) pa_nil)))))))))), ?_⟩
    have cp : CPow 10 60 := ⟨by decide, by decide, by decide⟩
    repeat (first | (refine And.intro ?_ ?_; · (first | exact rfl | (show (_ : Int) ≤ _; omega) | (show (_ : Int) < _; omega) | assumption | exact SqL.of upd_same | exact SqT.of upd_same | exact upd_same | exact Drew.at_ (by assumption) | exact at_of (j := 0) rfl rfl | exact at_of (j := 1) rfl rfl | exact at_of (j := 2) rfl rfl | exact at_of (j := 3) rfl rfl | exact .inr (by assumption) | exact .inl (by assumption) | exact .ty _ | exact dp_ty (by assumption) | exact kit_strD _ | exact kit_tupD _ | exact kit_intD _ | exact kit_boolD _ | exact ⟨_, rfl⟩ | decide | omega | exact (show 0 ≤ sizeLine by decide) | exact (show 1 ≤ sizeLine by decide) | exact (show 2 ≤ sizeLine by decide) | exact (show 3 ≤ sizeLine by decide) | exact (show 4 ≤ sizeLine by decide) | exact (show 5 ≤ sizeLine by decide) | exact (show 6 ≤ sizeLine by decide) | decide +kernel)) | apply Exists.intro | refine iteT ?_ | refine iteF ?_)
    intro l0 hl0
    have zK1 : Same H (upd H l0 (.lst [])) := up hl0
    have sK1 : Same H (upd H l0 (.lst [])) := fun x o e => zK1 _ _ ((Same.refl H) _ _ e)
    have gl0 : upd H l0 (.lst []) l0 = some (.lst []) := upd_same
    generalize upd H l0 (.lst []) = K1 at *
    repeat (first | (refine And.intro ?_ ?_; · (first | exact rfl | (show (_ : Int) ≤ _; omega) | (show (_ : Int) < _; omega) | assumption | exact SqL.of upd_same | exact SqT.of upd_same | exact upd_same | exact Drew.at_ (by assumption) | exact at_of (j := 0) rfl rfl | exact at_of (j := 1) rfl rfl | exact at_of (j := 2) rfl rfl | exact at_of (j := 3) rfl rfl | exact .inr (by assumption) | exact .inl (by assumption) | exact .ty _ | exact dp_ty (by assumption) | exact kit_strD _ | exact kit_tupD _ | exact kit_intD _ | exact kit_boolD _ | exact ⟨_, rfl⟩ | decide | omega | exact (show 0 ≤ sizeLine by decide) | exact (show 1 ≤ sizeLine by decide) | exact (show 2 ≤ sizeLine by decide) | exact (show 3 ≤ sizeLine by decide) | exact (show 4 ≤ sizeLine by decide) | exact (show 5 ≤ sizeLine by decide) | exact (show 6 ≤ sizeLine by decide) | decide +kernel)) | apply Exists.intro | refine iteT ?_ | refine iteF ?_)
    intro t1 ht1
    have zK2 : Same K1 (upd K1 t1 (.tup [.str "plus", .int 0])) := up ht1
    have sK2 : Same H (upd K1 t1 (.tup [.str "plus", .int 0])) := fun x o e => zK2 _ _ (sK1 _ _ e)
    have gt1 : upd K1 t1 (.tup [.str "plus", .int 0]) t1 = some (.tup [.str "plus", .int 0]) := upd_same
    generalize upd K1 t1 (.tup [.str "plus", .int 0]) = K2 at *
    have gl0 := zK2 _ _ gl0
    repeat (first | (refine And.intro ?_ ?_; · (first | exact rfl | (show (_ : Int) ≤ _; omega) | (show (_ : Int) < _; omega) | assumption | exact SqL.of upd_same | exact SqT.of upd_same | exact upd_same | exact Drew.at_ (by assumption) | exact at_of (j := 0) rfl rfl | exact at_of (j := 1) rfl rfl | exact at_of (j := 2) rfl rfl | exact at_of (j := 3) rfl rfl | exact .inr (by assumption) | exact .inl (by assumption) | exact .ty _ | exact dp_ty (by assumption) | exact kit_strD _ | exact kit_tupD _ | exact kit_intD _ | exact kit_boolD _ | exact ⟨_, rfl⟩ | decide | omega | exact (show 0 ≤ sizeLine by decide) | exact (show 1 ≤ sizeLine by decide) | exact (show 2 ≤ sizeLine by decide) | exact (show 3 ≤ sizeLine by decide) | exact (show 4 ≤ sizeLine by decide) | exact (show 5 ≤ sizeLine by decide) | exact (show 6 ≤ sizeLine by decide) | decide +kernel)) | apply Exists.intro | refine iteT ?_ | refine iteF ?_)
    intro l1 hl1
    have zK3 : Same K2 (upd K2 l1 (.lst [.ref t1])) := up hl1
    have sK3 : Same H (upd K2 l1 (.lst [.ref t1])) := fun x o e => zK3 _ _ (sK2 _ _ e)
    have gl1 : upd K2 l1 (.lst [.ref t1]) l1 = some (.lst [.ref t1]) := upd_same
    generalize upd K2 l1 (.lst [.ref t1]) = K3 at *
    have gl0 := zK3 _ _ gl0
    have gt1 := zK3 _ _ gt1
    repeat (first | (refine And.intro ?_ ?_; · (first | exact rfl | (show (_ : Int) ≤ _; omega) | (show (_ : Int) < _; omega) | assumption | exact SqL.of upd_same | exact SqT.of upd_same | exact upd_same | exact Drew.at_ (by assumption) | exact at_of (j := 0) rfl rfl | exact at_of (j := 1) rfl rfl | exact at_of (j := 2) rfl rfl | exact at_of (j := 3) rfl rfl | exact .inr (by assumption) | exact .inl (by assumption) | exact .ty _ | exact dp_ty (by assumption) | exact kit_strD _ | exact kit_tupD _ | exact kit_intD _ | exact kit_boolD _ | exact ⟨_, rfl⟩ | decide | omega | exact (show 0 ≤ sizeLine by decide) | exact (show 1 ≤ sizeLine by decide) | exact (show 2 ≤ sizeLine by decide) | exact (show 3 ≤ sizeLine by decide) | exact (show 4 ≤ sizeLine by decide) | exact (show 5 ≤ sizeLine by decide) | exact (show 6 ≤ sizeLine by decide) | decide +kernel)) | apply Exists.intro | refine iteT ?_ | refine iteF ?_)
    intro t2 ht2
    have zK4 : Same K3 (upd K3 t2 (.tup [.str "cut", .int 60, .int 0])) := up ht2
    have sK4 : Same H (upd K3 t2 (.tup [.str "cut", .int 60, .int 0])) := fun x o e => zK4 _ _ (sK3 _ _ e)
    have gt2 : upd K3 t2 (.tup [.str "cut", .int 60, .int 0]) t2 = some (.tup [.str "cut", .int 60, .int 0]) := upd_same
    generalize upd K3 t2 (.tup [.str "cut", .int 60, .int 0]) = K4 at *
    have gl0 := zK4 _ _ gl0
    have gt1 := zK4 _ _ gt1
    have gl1 := zK4 _ _ gl1
    repeat (first | (refine And.intro ?_ ?_; · (first | exact rfl | (show (_ : Int) ≤ _; omega) | (show (_ : Int) < _; omega) | assumption | exact SqL.of upd_same | exact SqT.of upd_same | exact upd_same | exact Drew.at_ (by assumption) | exact at_of (j := 0) rfl rfl | exact at_of (j := 1) rfl rfl | exact at_of (j := 2) rfl rfl | exact at_of (j := 3) rfl rfl | exact .inr (by assumption) | exact .inl (by assumption) | exact .ty _ | exact dp_ty (by assumption) | exact kit_strD _ | exact kit_tupD _ | exact kit_intD _ | exact kit_boolD _ | exact ⟨_, rfl⟩ | decide | omega | exact (show 0 ≤ sizeLine by decide) | exact (show 1 ≤ sizeLine by decide) | exact (show 2 ≤ sizeLine by decide) | exact (show 3 ≤ sizeLine by decide) | exact (show 4 ≤ sizeLine by decide) | exact (show 5 ≤ sizeLine by decide) | exact (show 6 ≤ sizeLine by decide) | decide +kernel)) | apply Exists.intro | refine iteT ?_ | refine iteF ?_)
    intro t3 ht3
    have zK5 : Same K4 (upd K4 t3 (.tup [.str "filled", .int 1])) := up ht3
    have sK5 : Same H (upd K4 t3 (.tup [.str "filled", .int 1])) := fun x o e => zK5 _ _ (sK4 _ _ e)
    have gt3 : upd K4 t3 (.tup [.str "filled", .int 1]) t3 = some (.tup [.str "filled", .int 1]) := upd_same
    generalize upd K4 t3 (.tup [.str "filled", .int 1]) = K5 at *
    have gl0 := zK5 _ _ gl0
    have gt1 := zK5 _ _ gt1
    have gl1 := zK5 _ _ gl1
    have gt2 := zK5 _ _ gt2
    repeat (first | (refine And.intro ?_ ?_; · (first | exact rfl | (show (_ : Int) ≤ _; omega) | (show (_ : Int) < _; omega) | assumption | exact SqL.of upd_same | exact SqT.of upd_same | exact upd_same | exact Drew.at_ (by assumption) | exact at_of (j := 0) rfl rfl | exact at_of (j := 1) rfl rfl | exact at_of (j := 2) rfl rfl | exact at_of (j := 3) rfl rfl | exact .inr (by assumption) | exact .inl (by assumption) | exact .ty _ | exact dp_ty (by assumption) | exact kit_strD _ | exact kit_tupD _ | exact kit_intD _ | exact kit_boolD _ | exact ⟨_, rfl⟩ | decide | omega | exact (show 0 ≤ sizeLine by decide) | exact (show 1 ≤ sizeLine by decide) | exact (show 2 ≤ sizeLine by decide) | exact (show 3 ≤ sizeLine by decide) | exact (show 4 ≤ sizeLine by decide) | exact (show 5 ≤ sizeLine by decide) | exact (show 6 ≤ sizeLine by decide) | decide +kernel)) | apply Exists.intro | refine iteT ?_ | refine iteF ?_)
    intro l2 hl2
    have zK6 : Same K5 (upd K5 l2 (.lst [.ref t2, .ref t3])) := up hl2
    have sK6 : Same H (upd K5 l2 (.lst [.ref t2, .ref t3])) := fun x o e => zK6 _ _ (sK5 _ _ e)
    have gl2 : upd K5 l2 (.lst [.ref t2, .ref t3]) l2 = some (.lst [.ref t2, .ref t3]) := upd_same
    generalize upd K5 l2 (.lst [.ref t2, .ref t3]) = K6 at *
    have gl0 := zK6 _ _ gl0
    have gt1 := zK6 _ _ gt1
    have gl1 := zK6 _ _ gl1
    have gt2 := zK6 _ _ gt2
    have gt3 := zK6 _ _ gt3
    repeat (first | (refine And.intro ?_ ?_; · (first | exact rfl | (show (_ : Int) ≤ _; omega) | (show (_ : Int) < _; omega) | assumption | exact SqL.of upd_same | exact SqT.of upd_same | exact upd_same | exact Drew.at_ (by assumption) | exact at_of (j := 0) rfl rfl | exact at_of (j := 1) rfl rfl | exact at_of (j := 2) rfl rfl | exact at_of (j := 3) rfl rfl | exact .inr (by assumption) | exact .inl (by assumption) | exact .ty _ | exact dp_ty (by assumption) | exact kit_strD _ | exact kit_tupD _ | exact kit_intD _ | exact kit_boolD _ | exact ⟨_, rfl⟩ | decide | omega | exact (show 0 ≤ sizeLine by decide) | exact (show 1 ≤ sizeLine by decide) | exact (show 2 ≤ sizeLine by decide) | exact (show 3 ≤ sizeLine by decide) | exact (show 4 ≤ sizeLine by decide) | exact (show 5 ≤ sizeLine by decide) | exact (show 6 ≤ sizeLine by decide) | decide +kernel)) | apply Exists.intro | refine iteT ?_ | refine iteF ?_)
    intro t4 ht4
    have zK7 : Same K6 (upd K6 t4 (.tup [.str "coded", .int 1, .int 1])) := up ht4
    have sK7 : Same H (upd K6 t4 (.tup [.str "coded", .int 1, .int 1])) := fun x o e => zK7 _ _ (sK6 _ _ e)
    have gt4 : upd K6 t4 (.tup [.str "coded", .int 1, .int 1]) t4 = some (.tup [.str "coded", .int 1, .int 1]) := upd_same
    generalize upd K6 t4 (.tup [.str "coded", .int 1, .int 1]) = K7 at *
    have gl0 := zK7 _ _ gl0
    have gt1 := zK7 _ _ gt1
    have gl1 := zK7 _ _ gl1
    have gt2 := zK7 _ _ gt2
    have gt3 := zK7 _ _ gt3
    have gl2 := zK7 _ _ gl2
    repeat (first | (refine And.intro ?_ ?_; · (first | exact rfl | (show (_ : Int) ≤ _; omega) | (show (_ : Int) < _; omega) | assumption | exact SqL.of upd_same | exact SqT.of upd_same | exact upd_same | exact Drew.at_ (by assumption) | exact at_of (j := 0) rfl rfl | exact at_of (j := 1) rfl rfl | exact at_of (j := 2) rfl rfl | exact at_of (j := 3) rfl rfl | exact .inr (by assumption) | exact .inl (by assumption) | exact .ty _ | exact dp_ty (by assumption) | exact kit_strD _ | exact kit_tupD _ | exact kit_intD _ | exact kit_boolD _ | exact ⟨_, rfl⟩ | decide | omega | exact (show 0 ≤ sizeLine by decide) | exact (show 1 ≤ sizeLine by decide) | exact (show 2 ≤ sizeLine by decide) | exact (show 3 ≤ sizeLine by decide) | exact (show 4 ≤ sizeLine by decide) | exact (show 5 ≤ sizeLine by decide) | exact (show 6 ≤ sizeLine by decide) | decide +kernel)) | apply Exists.intro | refine iteT ?_ | refine iteF ?_)
    intro l3 hl3
    have zK8 : Same K7 (upd K7 l3 (.lst [.ref t4])) := up hl3
    have sK8 : Same H (upd K7 l3 (.lst [.ref t4])) := fun x o e => zK8 _ _ (sK7 _ _ e)
    have gl3 : upd K7 l3 (.lst [.ref t4]) l3 = some (.lst [.ref t4]) := upd_same
    generalize upd K7 l3 (.lst [.ref t4]) = K8 at *
    have gl0 := zK8 _ _ gl0
    have gt1 := zK8 _ _ gt1
    have gl1 := zK8 _ _ gl1
    have gt2 := zK8 _ _ gt2
    have gt3 := zK8 _ _ gt3
    have gl2 := zK8 _ _ gl2
    have gt4 := zK8 _ _ gt4
    repeat (first | (refine And.intro ?_ ?_; · (first | exact rfl | (show (_ : Int) ≤ _; omega) | (show (_ : Int) < _; omega) | assumption | exact SqL.of upd_same | exact SqT.of upd_same | exact upd_same | exact Drew.at_ (by assumption) | exact at_of (j := 0) rfl rfl | exact at_of (j := 1) rfl rfl | exact at_of (j := 2) rfl rfl | exact at_of (j := 3) rfl rfl | exact .inr (by assumption) | exact .inl (by assumption) | exact .ty _ | exact dp_ty (by assumption) | exact kit_strD _ | exact kit_tupD _ | exact kit_intD _ | exact kit_boolD _ | exact ⟨_, rfl⟩ | decide | omega | exact (show 0 ≤ sizeLine by decide) | exact (show 1 ≤ sizeLine by decide) | exact (show 2 ≤ sizeLine by decide) | exact (show 3 ≤ sizeLine by decide) | exact (show 4 ≤ sizeLine by decide) | exact (show 5 ≤ sizeLine by decide) | exact (show 6 ≤ sizeLine by decide) | decide +kernel)) | apply Exists.intro | refine iteT ?_ | refine iteF ?_)
    intro t5 ht5
    have zK9 : Same K8 (upd K8 t5 (.tup [.str "plus", .int 1])) := up ht5
    have sK9 : Same H (upd K8 t5 (.tup [.str "plus", .int 1])) := fun x o e => zK9 _ _ (sK8 _ _ e)
    have gt5 : upd K8 t5 (.tup [.str "plus", .int 1]) t5 = some (.tup [.str "plus", .int 1]) := upd_same
    generalize upd K8 t5 (.tup [.str "plus", .int 1]) = K9 at *
    have gl0 := zK9 _ _ gl0
    have gt1 := zK9 _ _ gt1
    have gl1 := zK9 _ _ gl1
    have gt2 := zK9 _ _ gt2
    have gt3 := zK9 _ _ gt3
    have gl2 := zK9 _ _ gl2
    have gt4 := zK9 _ _ gt4
    have gl3 := zK9 _ _ gl3
    repeat (first | (refine And.intro ?_ ?_; · (first | exact rfl | (show (_ : Int) ≤ _; omega) | (show (_ : Int) < _; omega) | assumption | exact SqL.of upd_same | exact SqT.of upd_same | exact upd_same | exact Drew.at_ (by assumption) | exact at_of (j := 0) rfl rfl | exact at_of (j := 1) rfl rfl | exact at_of (j := 2) rfl rfl | exact at_of (j := 3) rfl rfl | exact .inr (by assumption) | exact .inl (by assumption) | exact .ty _ | exact dp_ty (by assumption) | exact kit_strD _ | exact kit_tupD _ | exact kit_intD _ | exact kit_boolD _ | exact ⟨_, rfl⟩ | decide | omega | exact (show 0 ≤ sizeLine by decide) | exact (show 1 ≤ sizeLine by decide) | exact (show 2 ≤ sizeLine by decide) | exact (show 3 ≤ sizeLine by decide) | exact (show 4 ≤ sizeLine by decide) | exact (show 5 ≤ sizeLine by decide) | exact (show 6 ≤ sizeLine by decide) | decide +kernel)) | apply Exists.intro | refine iteT ?_ | refine iteF ?_)
    intro l4 hl4
    have zK10 : Same K9 (upd K9 l4 (.lst [.ref t5])) := up hl4
    have sK10 : Same H (upd K9 l4 (.lst [.ref t5])) := fun x o e => zK10 _ _ (sK9 _ _ e)
    have gl4 : upd K9 l4 (.lst [.ref t5]) l4 = some (.lst [.ref t5]) := upd_same
    generalize upd K9 l4 (.lst [.ref t5]) = K10 at *
    have gl0 := zK10 _ _ gl0
    have gt1 := zK10 _ _ gt1
    have gl1 := zK10 _ _ gl1
    have gt2 := zK10 _ _ gt2
    have gt3 := zK10 _ _ gt3
    have gl2 := zK10 _ _ gl2
    have gt4 := zK10 _ _ gt4
    have gl3 := zK10 _ _ gl3
    have gt5 := zK10 _ _ gt5
    repeat (first | (refine And.intro ?_ ?_; · (first | exact rfl | (show (_ : Int) ≤ _; omega) | (show (_ : Int) < _; omega) | assumption | exact SqL.of upd_same | exact SqT.of upd_same | exact upd_same | exact Drew.at_ (by assumption) | exact at_of (j := 0) rfl rfl | exact at_of (j := 1) rfl rfl | exact at_of (j := 2) rfl rfl | exact at_of (j := 3) rfl rfl | exact .inr (by assumption) | exact .inl (by assumption) | exact .ty _ | exact dp_ty (by assumption) | exact kit_strD _ | exact kit_tupD _ | exact kit_intD _ | exact kit_boolD _ | exact ⟨_, rfl⟩ | decide | omega | exact (show 0 ≤ sizeLine by decide) | exact (show 1 ≤ sizeLine by decide) | exact (show 2 ≤ sizeLine by decide) | exact (show 3 ≤ sizeLine by decide) | exact (show 4 ≤ sizeLine by decide) | exact (show 5 ≤ sizeLine by decide) | exact (show 6 ≤ sizeLine by decide) | decide +kernel)) | apply Exists.intro | refine iteT ?_ | refine iteF ?_)
    intro L hL
    have zK11 : Same K10 (upd K10 L (.lst [.ref l0, .ref l1, .ref l2, .ref l3, .ref l4])) := up hL
    have sK11 : Same H (upd K10 L (.lst [.ref l0, .ref l1, .ref l2, .ref l3, .ref l4])) := fun x o e => zK11 _ _ (sK10 _ _ e)
    have gL : upd K10 L (.lst [.ref l0, .ref l1, .ref l2, .ref l3, .ref l4]) L = some (.lst [.ref l0, .ref l1, .ref l2, .ref l3, .ref l4]) := upd_same
    generalize upd K10 L (.lst [.ref l0, .ref l1, .ref l2, .ref l3, .ref l4]) = K11 at *
    have gl0 := zK11 _ _ gl0
    have gt1 := zK11 _ _ gt1
    have gl1 := zK11 _ _ gl1
    have gt2 := zK11 _ _ gt2
    have gt3 := zK11 _ _ gt3
    have gl2 := zK11 _ _ gl2
    have gt4 := zK11 _ _ gt4
    have gl3 := zK11 _ _ gl3
    have gt5 := zK11 _ _ gt5
    have gl4 := zK11 _ _ gl4
    have np : ∀ {x : Addr} {X : Hp}, Same H X → X x = none → x ≠ p := fun s h => PurseAt.ne (hp.same s) h
    have dK := (Drew.refl hp).same sK11
    have hpK := dK.at_
    have q0 := np (Same.refl H) hl0
    have q1 := np sK2 hl1
    have q2 := np sK5 hl2
    have q3 := np sK7 hl3
    have q4 := np sK9 hl4
    have q5 := np sK10 hL
    repeat (first | (refine And.intro ?_ ?_; · (first | exact rfl | (show (_ : Int) ≤ _; omega) | (show (_ : Int) < _; omega) | assumption | exact SqL.of upd_same | exact SqT.of upd_same | exact upd_same | exact Drew.at_ (by assumption) | exact at_of (j := 0) rfl rfl | exact at_of (j := 1) rfl rfl | exact at_of (j := 2) rfl rfl | exact at_of (j := 3) rfl rfl | exact .inr (by assumption) | exact .inl (by assumption) | exact .ty _ | exact dp_ty (by assumption) | exact kit_strD _ | exact kit_tupD _ | exact kit_intD _ | exact kit_boolD _ | exact ⟨_, rfl⟩ | decide | omega | exact (show 0 ≤ sizeLine by decide) | exact (show 1 ≤ sizeLine by decide) | exact (show 2 ≤ sizeLine by decide) | exact (show 3 ≤ sizeLine by decide) | exact (show 4 ≤ sizeLine by decide) | exact (show 5 ≤ sizeLine by decide) | exact (show 6 ≤ sizeLine by decide) | decide +kernel)) | apply Exists.intro | refine iteT ?_ | refine iteF ?_)
    intro r H2 r0 r1 d2
    have gL := d2.kp L _ q5 gL
    have kt : ∀ {x : Addr} {xs : List V}, K11 x = some (.tup xs) → H2 x = some (.tup xs) := fun h => d2.keep hpK h (fun _ z => by cases z)
    obtain ⟨l, xs, ws, ei, hl, ht, ok, w7⟩ : ∃ (l : Addr) (xs : List V) (ws : List Wr), atI [V.ref l0, .ref l1, .ref l2, .ref l3, .ref l4] r = some (.ref l) ∧ H2 l = some (.lst xs) ∧ TagsAt H2 xs ws ∧ (∀ a ∈ ws, a.ok) ∧ ws.length ≤ 7 := by
      have r5 : r = 0 ∨ r = 1 ∨ r = 2 ∨ r = 3 ∨ r = 4 := by omega
      rcases r5 with rfl | rfl | rfl | rfl | rfl
      · exact ⟨l0, _, [], at_of (j := 0) rfl rfl, d2.kp _ _ q0 gl0, .nil, fun _ h => (by cases h), by decide⟩
      · exact ⟨l1, _, [.plus 0], at_of (j := 1) rfl rfl, d2.kp _ _ q1 gl1, .cons (kt gt1) .nil, fun a h => (by rw [List.mem_singleton.mp h]; exact ⟨by decide, by decide⟩), by decide⟩
      · exact ⟨l2, _, [.cut 60 0, .filled 1], at_of (j := 2) rfl rfl, d2.kp _ _ q2 gl2, .cons (kt gt2) (.cons (kt gt3) .nil), fun a h => (by
          rcases List.mem_cons.mp h with rfl | h
          · exact ⟨by decide, by decide, by decide, by decide⟩
          · rw [List.mem_singleton.mp h]; exact ⟨by decide, by decide⟩), by decide⟩
      · exact ⟨l3, _, [.coded 1 1], at_of (j := 3) rfl rfl, d2.kp _ _ q3 gl3, .cons (kt gt4) .nil, fun a h => (by rw [List.mem_singleton.mp h]; exact ⟨by decide, by decide, by decide, by decide⟩), by decide⟩
      · exact ⟨l4, _, [.plus 1], at_of (j := 4) rfl rfl, d2.kp _ _ q4 gl4, .cons (kt gt5) .nil, fun a h => (by rw [List.mem_singleton.mp h]; exact ⟨by decide, by decide⟩), by decide⟩
    refine ⟨L, _, _, _, rfl, rfl, SqL.of gL, ei, ?_⟩
    have d3 := dK.trans d2
    repeat (first | (refine And.intro ?_ ?_; · (first | exact rfl | (show (_ : Int) ≤ _; omega) | (show (_ : Int) < _; omega) | assumption | exact SqL.of upd_same | exact SqT.of upd_same | exact upd_same | exact Drew.at_ (by assumption) | exact at_of (j := 0) rfl rfl | exact at_of (j := 1) rfl rfl | exact at_of (j := 2) rfl rfl | exact at_of (j := 3) rfl rfl | exact .inr (by assumption) | exact .inl (by assumption) | exact .ty _ | exact dp_ty (by assumption) | exact kit_strD _ | exact kit_tupD _ | exact kit_intD _ | exact kit_boolD _ | exact ⟨_, rfl⟩ | decide | omega | exact (show 0 ≤ sizeLine by decide) | exact (show 1 ≤ sizeLine by decide) | exact (show 2 ≤ sizeLine by decide) | exact (show 3 ≤ sizeLine by decide) | exact (show 4 ≤ sizeLine by decide) | exact (show 5 ≤ sizeLine by decide) | exact (show 6 ≤ sizeLine by decide) | decide +kernel)) | apply Exists.intro | refine iteT ?_ | refine iteF ?_)
    intro lt H3 g3 f3 s3
    have d4 := d3.same s3
    refine gn ?_
    refine st_eq [some (.ref p), some (.int b), some (.int (10 ^ 60 - 1)), some (.ref l), some (.str lt), none, none] rfl ?_
    have lfT : LeafOk (.str lt) := .inr ⟨_, rfl, Nat.le_trans g3.1 (by decide), g3.2⟩
    have lfI : ∀ {z : Int}, -10 ^ 100 ≤ z ∧ z ≤ 10 ^ 100 → LeafOk (.int z) := fun {z} h => .inl ⟨z, rfl, h⟩
    have clmP : ∀ {y z : Int}, -10 ^ 100 ≤ y ∧ y ≤ 10 ^ 100 → -10 ^ 100 ≤ z ∧ z ≤ 10 ^ 100 → Clm [.str "payload", .str lt, .int y, .int z] := fun {y z} hy hz => ⟨"payload", lt, y, [z], rfl, (show 1 ≤ 1 by decide), .head _, f3, by
      intro v hv
      simp only [List.mem_cons, List.not_mem_nil, or_false] at hv
      rcases hv with rfl | rfl | rfl | rfl
      · exact .inr ⟨_, rfl, by decide, by decide +kernel⟩
      · exact lfT
      · exact lfI hy
      · exact lfI hz⟩
    have kc1 := clmP (y := 10 ^ 60 - 1) (z := 10 ^ 60 - 1) ⟨by decide, by decide⟩ ⟨by decide, by decide⟩
    have kc2 := clmP (y := 10 ^ 60 - 1) (z := 10 ^ 60 - 1 - 1) ⟨by decide, by decide⟩ ⟨by decide, by decide⟩
    have same_r : ∀ {r1 r2 : Bool} {d e : PyData}, (r1 = true ↔ HoldsM d e) → (r2 = true ↔ HoldsM d e) → r1 = r2 := fun {r1 r2 d e} h1 h2 => by
      have h := h1.trans h2.symm
      cases r1 <;> cases r2 <;> simp at h <;> rfl
    clear kt gl0 gl1 gl2 gl3 gl4 gt1 gt2 gt3 gt4 gt5 gL q0 q1 q2 q3 q4 q5 dK hpK d2 hl ht ei np
    have d0 := d4
    have hp3 := d4.at_
    repeat (first | (refine And.intro ?_ ?_; · (first | exact rfl | (show (_ : Int) ≤ _; omega) | (show (_ : Int) < _; omega) | assumption | exact SqL.of upd_same | exact SqT.of upd_same | exact upd_same | exact Drew.at_ (by assumption) | exact at_of (j := 0) rfl rfl | exact at_of (j := 1) rfl rfl | exact at_of (j := 2) rfl rfl | exact at_of (j := 3) rfl rfl | exact .inr (by assumption) | exact .inl (by assumption) | exact .ty _ | exact dp_ty (by assumption) | exact kit_strD _ | exact kit_tupD _ | exact kit_intD _ | exact kit_boolD _ | exact ⟨_, rfl⟩ | decide | omega | exact (show 0 ≤ sizeLine by decide) | exact (show 1 ≤ sizeLine by decide) | exact (show 2 ≤ sizeLine by decide) | exact (show 3 ≤ sizeLine by decide) | exact (show 4 ≤ sizeLine by decide) | exact (show 5 ≤ sizeLine by decide) | exact (show 6 ≤ sizeLine by decide) | decide +kernel)) | apply Exists.intro | refine iteT ?_ | refine iteF ?_)
    intro c1 hc1
    have zM1 : Same H3 (upd H3 c1 (.tup [.str "payload", .str lt, .int (10 ^ 60 - 1), .int (10 ^ 60 - 1)])) := up hc1
    have sM1 : Same H3 (upd H3 c1 (.tup [.str "payload", .str lt, .int (10 ^ 60 - 1), .int (10 ^ 60 - 1)])) := fun x o e => zM1 _ _ ((Same.refl H3) _ _ e)
    have gc1 : upd H3 c1 (.tup [.str "payload", .str lt, .int (10 ^ 60 - 1), .int (10 ^ 60 - 1)]) c1 = some (.tup [.str "payload", .str lt, .int (10 ^ 60 - 1), .int (10 ^ 60 - 1)]) := upd_same
    generalize upd H3 c1 (.tup [.str "payload", .str lt, .int (10 ^ 60 - 1), .int (10 ^ 60 - 1)]) = M1 at *
    repeat (first | (refine And.intro ?_ ?_; · (first | exact rfl | (show (_ : Int) ≤ _; omega) | (show (_ : Int) < _; omega) | assumption | exact SqL.of upd_same | exact SqT.of upd_same | exact upd_same | exact Drew.at_ (by assumption) | exact at_of (j := 0) rfl rfl | exact at_of (j := 1) rfl rfl | exact at_of (j := 2) rfl rfl | exact at_of (j := 3) rfl rfl | exact .inr (by assumption) | exact .inl (by assumption) | exact .ty _ | exact dp_ty (by assumption) | exact kit_strD _ | exact kit_tupD _ | exact kit_intD _ | exact kit_boolD _ | exact ⟨_, rfl⟩ | decide | omega | exact (show 0 ≤ sizeLine by decide) | exact (show 1 ≤ sizeLine by decide) | exact (show 2 ≤ sizeLine by decide) | exact (show 3 ≤ sizeLine by decide) | exact (show 4 ≤ sizeLine by decide) | exact (show 5 ≤ sizeLine by decide) | exact (show 6 ≤ sizeLine by decide) | decide +kernel)) | apply Exists.intro | refine iteT ?_ | refine iteF ?_)
    intro c2 hc2
    have zM2 : Same M1 (upd M1 c2 (.tup [.str "payload", .str lt, .int (10 ^ 60 - 1), .int (10 ^ 60 - 1 - 1)])) := up hc2
    have sM2 : Same H3 (upd M1 c2 (.tup [.str "payload", .str lt, .int (10 ^ 60 - 1), .int (10 ^ 60 - 1 - 1)])) := fun x o e => zM2 _ _ (sM1 _ _ e)
    have gc2 : upd M1 c2 (.tup [.str "payload", .str lt, .int (10 ^ 60 - 1), .int (10 ^ 60 - 1 - 1)]) c2 = some (.tup [.str "payload", .str lt, .int (10 ^ 60 - 1), .int (10 ^ 60 - 1 - 1)]) := upd_same
    generalize upd M1 c2 (.tup [.str "payload", .str lt, .int (10 ^ 60 - 1), .int (10 ^ 60 - 1 - 1)]) = M2 at *
    have gc1 := zM2 _ _ gc1
    repeat (first | (refine And.intro ?_ ?_; · (first | exact rfl | (show (_ : Int) ≤ _; omega) | (show (_ : Int) < _; omega) | assumption | exact SqL.of upd_same | exact SqT.of upd_same | exact upd_same | exact Drew.at_ (by assumption) | exact at_of (j := 0) rfl rfl | exact at_of (j := 1) rfl rfl | exact at_of (j := 2) rfl rfl | exact at_of (j := 3) rfl rfl | exact .inr (by assumption) | exact .inl (by assumption) | exact .ty _ | exact dp_ty (by assumption) | exact kit_strD _ | exact kit_tupD _ | exact kit_intD _ | exact kit_boolD _ | exact ⟨_, rfl⟩ | decide | omega | exact (show 0 ≤ sizeLine by decide) | exact (show 1 ≤ sizeLine by decide) | exact (show 2 ≤ sizeLine by decide) | exact (show 3 ≤ sizeLine by decide) | exact (show 4 ≤ sizeLine by decide) | exact (show 5 ≤ sizeLine by decide) | exact (show 6 ≤ sizeLine by decide) | decide +kernel)) | apply Exists.intro | refine iteT ?_ | refine iteF ?_)
    intro cl hcl
    have zM3 : Same M2 (upd M2 cl (.lst [.ref c1, .ref c2])) := up hcl
    have sM3 : Same H3 (upd M2 cl (.lst [.ref c1, .ref c2])) := fun x o e => zM3 _ _ (sM2 _ _ e)
    have gcl : upd M2 cl (.lst [.ref c1, .ref c2]) cl = some (.lst [.ref c1, .ref c2]) := upd_same
    generalize upd M2 cl (.lst [.ref c1, .ref c2]) = M3 at *
    have gc1 := zM3 _ _ gc1
    have gc2 := zM3 _ _ gc2
    have qc : cl ≠ p := PurseAt.ne (hp3.same sM2) hcl
    have dM := d4.same sM3
    have hpM := dM.at_
    refine ⟨_, rfl, ⟨_, SqL.of gcl⟩, for_list (K := K) (a := cl) (xs := [.ref c1, .ref c2]) (fun i σ H' => Drew p M3 H' ∧ ∃ (v5 v6 : Option V), σ = [some (.ref p), some (.int b), some (.int (10 ^ 60 - 1)), some (.ref l), some (.str lt), v5, v6]) ⟨Drew.refl hpM, none, none, rfl⟩ (fun i σ H' _ h => SqL.of (h.1.kp cl _ qc gcl)) ?_ ?_⟩
    · rintro i x σ G hi ⟨d5, v5, v6, rfl⟩
      obtain ⟨t, xs', rfl, gx, kx⟩ : ∃ (t : Addr) (xs' : List V), x = .ref t ∧ M3 t = some (.tup xs') ∧ Clm xs' := by
        match i, hi with
        | 0, h => cases h; exact ⟨c1, _, rfl, gc1, kc1⟩
        | 1, h => cases h; exact ⟨c2, _, rfl, gc2, kc2⟩
      have gx := d5.keep hpM gx (fun _ z => by cases z)
      have hpG := d5.at_
      obtain ⟨m1, m2, m3⟩ := clm_ok kx
      have m4 := ltexts m3
      have hlf : ∀ v ∈ xs', LeafOk v := by
        obtain ⟨w, s, x, ns, rfl, _, _, _, h⟩ := id kx
        exact h
      repeat (first | (refine And.intro ?_ ?_; · (first | exact rfl | (show (_ : Int) ≤ _; omega) | (show (_ : Int) < _; omega) | assumption | exact SqL.of upd_same | exact SqT.of upd_same | exact upd_same | exact Drew.at_ (by assumption) | exact at_of (j := 0) rfl rfl | exact at_of (j := 1) rfl rfl | exact at_of (j := 2) rfl rfl | exact at_of (j := 3) rfl rfl | exact .inr (by assumption) | exact .inl (by assumption) | exact .ty _ | exact dp_ty (by assumption) | exact kit_strD _ | exact kit_tupD _ | exact kit_intD _ | exact kit_boolD _ | exact ⟨_, rfl⟩ | decide | omega | exact (show 0 ≤ sizeLine by decide) | exact (show 1 ≤ sizeLine by decide) | exact (show 2 ≤ sizeLine by decide) | exact (show 3 ≤ sizeLine by decide) | exact (show 4 ≤ sizeLine by decide) | exact (show 5 ≤ sizeLine by decide) | exact (show 6 ≤ sizeLine by decide) | decide +kernel)) | apply Exists.intro | refine iteT ?_ | refine iteF ?_)
      intro e1 he1
      have zN1 : Same G (upd G e1 (.tup [.int (10 ^ 60 - 1)])) := up he1
      have sN1 : Same G (upd G e1 (.tup [.int (10 ^ 60 - 1)])) := fun x o e => zN1 _ _ ((Same.refl G) _ _ e)
      have ge1 : upd G e1 (.tup [.int (10 ^ 60 - 1)]) e1 = some (.tup [.int (10 ^ 60 - 1)]) := upd_same
      generalize upd G e1 (.tup [.int (10 ^ 60 - 1)]) = N1 at *
      repeat (first | (refine And.intro ?_ ?_; · (first | exact rfl | (show (_ : Int) ≤ _; omega) | (show (_ : Int) < _; omega) | assumption | exact SqL.of upd_same | exact SqT.of upd_same | exact upd_same | exact Drew.at_ (by assumption) | exact at_of (j := 0) rfl rfl | exact at_of (j := 1) rfl rfl | exact at_of (j := 2) rfl rfl | exact at_of (j := 3) rfl rfl | exact .inr (by assumption) | exact .inl (by assumption) | exact .ty _ | exact dp_ty (by assumption) | exact kit_strD _ | exact kit_tupD _ | exact kit_intD _ | exact kit_boolD _ | exact ⟨_, rfl⟩ | decide | omega | exact (show 0 ≤ sizeLine by decide) | exact (show 1 ≤ sizeLine by decide) | exact (show 2 ≤ sizeLine by decide) | exact (show 3 ≤ sizeLine by decide) | exact (show 4 ≤ sizeLine by decide) | exact (show 5 ≤ sizeLine by decide) | exact (show 6 ≤ sizeLine by decide) | decide +kernel)) | apply Exists.intro | refine iteT ?_ | refine iteF ?_)
      intro e2 he2
      have zN2 : Same N1 (upd N1 e2 (.tup [.int (10 ^ 60 - 1), .int (10 ^ 60 - 1 + 1)])) := up he2
      have sN2 : Same G (upd N1 e2 (.tup [.int (10 ^ 60 - 1), .int (10 ^ 60 - 1 + 1)])) := fun x o e => zN2 _ _ (sN1 _ _ e)
      have ge2 : upd N1 e2 (.tup [.int (10 ^ 60 - 1), .int (10 ^ 60 - 1 + 1)]) e2 = some (.tup [.int (10 ^ 60 - 1), .int (10 ^ 60 - 1 + 1)]) := upd_same
      generalize upd N1 e2 (.tup [.int (10 ^ 60 - 1), .int (10 ^ 60 - 1 + 1)]) = N2 at *
      have ge1 := zN2 _ _ ge1
      repeat (first | (refine And.intro ?_ ?_; · (first | exact rfl | (show (_ : Int) ≤ _; omega) | (show (_ : Int) < _; omega) | assumption | exact SqL.of upd_same | exact SqT.of upd_same | exact upd_same | exact Drew.at_ (by assumption) | exact at_of (j := 0) rfl rfl | exact at_of (j := 1) rfl rfl | exact at_of (j := 2) rfl rfl | exact at_of (j := 3) rfl rfl | exact .inr (by assumption) | exact .inl (by assumption) | exact .ty _ | exact dp_ty (by assumption) | exact kit_strD _ | exact kit_tupD _ | exact kit_intD _ | exact kit_boolD _ | exact ⟨_, rfl⟩ | decide | omega | exact (show 0 ≤ sizeLine by decide) | exact (show 1 ≤ sizeLine by decide) | exact (show 2 ≤ sizeLine by decide) | exact (show 3 ≤ sizeLine by decide) | exact (show 4 ≤ sizeLine by decide) | exact (show 5 ≤ sizeLine by decide) | exact (show 6 ≤ sizeLine by decide) | decide +kernel)) | apply Exists.intro | refine iteT ?_ | refine iteF ?_)
      intro e3 he3
      have zN3 : Same N2 (upd N2 e3 (.tup [.int (10 ^ 60 - 1 - 1), .int (10 ^ 60 - 1)])) := up he3
      have sN3 : Same G (upd N2 e3 (.tup [.int (10 ^ 60 - 1 - 1), .int (10 ^ 60 - 1)])) := fun x o e => zN3 _ _ (sN2 _ _ e)
      have ge3 : upd N2 e3 (.tup [.int (10 ^ 60 - 1 - 1), .int (10 ^ 60 - 1)]) e3 = some (.tup [.int (10 ^ 60 - 1 - 1), .int (10 ^ 60 - 1)]) := upd_same
      generalize upd N2 e3 (.tup [.int (10 ^ 60 - 1 - 1), .int (10 ^ 60 - 1)]) = N3 at *
      have ge1 := zN3 _ _ ge1
      have ge2 := zN3 _ _ ge2
      repeat (first | (refine And.intro ?_ ?_; · (first | exact rfl | (show (_ : Int) ≤ _; omega) | (show (_ : Int) < _; omega) | assumption | exact SqL.of upd_same | exact SqT.of upd_same | exact upd_same | exact Drew.at_ (by assumption) | exact at_of (j := 0) rfl rfl | exact at_of (j := 1) rfl rfl | exact at_of (j := 2) rfl rfl | exact at_of (j := 3) rfl rfl | exact .inr (by assumption) | exact .inl (by assumption) | exact .ty _ | exact dp_ty (by assumption) | exact kit_strD _ | exact kit_tupD _ | exact kit_intD _ | exact kit_boolD _ | exact ⟨_, rfl⟩ | decide | omega | exact (show 0 ≤ sizeLine by decide) | exact (show 1 ≤ sizeLine by decide) | exact (show 2 ≤ sizeLine by decide) | exact (show 3 ≤ sizeLine by decide) | exact (show 4 ≤ sizeLine by decide) | exact (show 5 ≤ sizeLine by decide) | exact (show 6 ≤ sizeLine by decide) | decide +kernel)) | apply Exists.intro | refine iteT ?_ | refine iteF ?_)
      intro e4 he4
      have zN4 : Same N3 (upd N3 e4 (.tup [])) := up he4
      have sN4 : Same G (upd N3 e4 (.tup [])) := fun x o e => zN4 _ _ (sN3 _ _ e)
      have ge4 : upd N3 e4 (.tup []) e4 = some (.tup []) := upd_same
      generalize upd N3 e4 (.tup []) = N4 at *
      have ge1 := zN4 _ _ ge1
      have ge2 := zN4 _ _ ge2
      have ge3 := zN4 _ _ ge3
      repeat (first | (refine And.intro ?_ ?_; · (first | exact rfl | (show (_ : Int) ≤ _; omega) | (show (_ : Int) < _; omega) | assumption | exact SqL.of upd_same | exact SqT.of upd_same | exact upd_same | exact Drew.at_ (by assumption) | exact at_of (j := 0) rfl rfl | exact at_of (j := 1) rfl rfl | exact at_of (j := 2) rfl rfl | exact at_of (j := 3) rfl rfl | exact .inr (by assumption) | exact .inl (by assumption) | exact .ty _ | exact dp_ty (by assumption) | exact kit_strD _ | exact kit_tupD _ | exact kit_intD _ | exact kit_boolD _ | exact ⟨_, rfl⟩ | decide | omega | exact (show 0 ≤ sizeLine by decide) | exact (show 1 ≤ sizeLine by decide) | exact (show 2 ≤ sizeLine by decide) | exact (show 3 ≤ sizeLine by decide) | exact (show 4 ≤ sizeLine by decide) | exact (show 5 ≤ sizeLine by decide) | exact (show 6 ≤ sizeLine by decide) | decide +kernel)) | apply Exists.intro | refine iteT ?_ | refine iteF ?_)
      intro e5 he5
      have zN5 : Same N4 (upd N4 e5 (.tup [.int (10 ^ 60 - 1), .non])) := up he5
      have sN5 : Same G (upd N4 e5 (.tup [.int (10 ^ 60 - 1), .non])) := fun x o e => zN5 _ _ (sN4 _ _ e)
      have ge5 : upd N4 e5 (.tup [.int (10 ^ 60 - 1), .non]) e5 = some (.tup [.int (10 ^ 60 - 1), .non]) := upd_same
      generalize upd N4 e5 (.tup [.int (10 ^ 60 - 1), .non]) = N5 at *
      have ge1 := zN5 _ _ ge1
      have ge2 := zN5 _ _ ge2
      have ge3 := zN5 _ _ ge3
      have ge4 := zN5 _ _ ge4
      repeat (first | (refine And.intro ?_ ?_; · (first | exact rfl | (show (_ : Int) ≤ _; omega) | (show (_ : Int) < _; omega) | assumption | exact SqL.of upd_same | exact SqT.of upd_same | exact upd_same | exact Drew.at_ (by assumption) | exact at_of (j := 0) rfl rfl | exact at_of (j := 1) rfl rfl | exact at_of (j := 2) rfl rfl | exact at_of (j := 3) rfl rfl | exact .inr (by assumption) | exact .inl (by assumption) | exact .ty _ | exact dp_ty (by assumption) | exact kit_strD _ | exact kit_tupD _ | exact kit_intD _ | exact kit_boolD _ | exact ⟨_, rfl⟩ | decide | omega | exact (show 0 ≤ sizeLine by decide) | exact (show 1 ≤ sizeLine by decide) | exact (show 2 ≤ sizeLine by decide) | exact (show 3 ≤ sizeLine by decide) | exact (show 4 ≤ sizeLine by decide) | exact (show 5 ≤ sizeLine by decide) | exact (show 6 ≤ sizeLine by decide) | decide +kernel)) | apply Exists.intro | refine iteT ?_ | refine iteF ?_)
      intro el hel
      have zN6 : Same N5 (upd N5 el (.lst [.ref e1, .ref e2, .ref e3, .ref e4, .ref e5])) := up hel
      have sN6 : Same G (upd N5 el (.lst [.ref e1, .ref e2, .ref e3, .ref e4, .ref e5])) := fun x o e => zN6 _ _ (sN5 _ _ e)
      have gel : upd N5 el (.lst [.ref e1, .ref e2, .ref e3, .ref e4, .ref e5]) el = some (.lst [.ref e1, .ref e2, .ref e3, .ref e4, .ref e5]) := upd_same
      generalize upd N5 el (.lst [.ref e1, .ref e2, .ref e3, .ref e4, .ref e5]) = N6 at *
      have ge1 := zN6 _ _ ge1
      have ge2 := zN6 _ _ ge2
      have ge3 := zN6 _ _ ge3
      have ge4 := zN6 _ _ ge4
      have ge5 := zN6 _ _ ge5
      have hxN : SqT K N6 t xs' := sqT_same sN6 (SqT.of gx)
      have pg0 : ∀ {es : List PyData}, (∀ x ∈ es, PgEl x) → es.length ≤ 10 → PageOk (.tuple es) := page_tup
      have pgi : ∀ {z : Int}, -10 ^ 100 ≤ z ∧ z ≤ 10 ^ 100 → PgEl (.int z) := fun {z} h => ⟨z, by omega, by omega, .inl rfl⟩
      have pgn : PgEl .none := ⟨0, by decide, by decide, .inr (.inr (.inr rfl))⟩
      refine ⟨_, rfl, ⟨_, SqL.of gel⟩, for_list (K := K) (a := el) (xs := [.ref e1, .ref e2, .ref e3, .ref e4, .ref e5]) (fun i σ H' => Same N6 H' ∧ ∃ (v6 : Option V), σ = [some (.ref p), some (.int b), some (.int (10 ^ 60 - 1)), some (.ref l), some (.str lt), some (.ref t), v6]) ⟨Same.refl _, v6, rfl⟩ (fun i σ H' _ h => SqL.of (h.1 _ _ gel)) ?_ ?_⟩
      · rintro i2 x2 σ G2 hi2 ⟨sG, v7, rfl⟩
        obtain ⟨eD, hu, pe⟩ : ∃ eD, Dp K N6 x2 eD ∧ PageOk eD := by
          match i2, hi2 with
          | 0, h => cases h; exact ⟨_, .tup (SqT.of ge1) (.cons (.int _) .nil), pg0 (es := [.int _]) (fun x hx => by rw [List.mem_singleton.mp hx]; exact pgi ⟨by decide, by decide⟩) (show 1 ≤ 10 by decide)⟩
          | 1, h => cases h; exact ⟨_, .tup (SqT.of ge2) (.cons (.int _) (.cons (.int _) .nil)), pg0 (es := [.int _, .int _]) (fun x hx => by
              simp only [List.mem_cons, List.not_mem_nil, or_false] at hx
              rcases hx with rfl | rfl
              · exact pgi ⟨by decide, by decide⟩
              · exact pgi ⟨by decide, by decide⟩) (show 2 ≤ 10 by decide)⟩
          | 2, h => cases h; exact ⟨_, .tup (SqT.of ge3) (.cons (.int _) (.cons (.int _) .nil)), pg0 (es := [.int _, .int _]) (fun x hx => by
              simp only [List.mem_cons, List.not_mem_nil, or_false] at hx
              rcases hx with rfl | rfl
              · exact pgi ⟨by decide, by decide⟩
              · exact pgi ⟨by decide, by decide⟩) (show 2 ≤ 10 by decide)⟩
          | 3, h => cases h; exact ⟨_, .tup (SqT.of ge4) .nil, pg0 (es := []) (fun x hx => by cases hx) (show 0 ≤ 10 by decide)⟩
          | 4, h => cases h; exact ⟨_, .tup (SqT.of ge5) (.cons (.int _) (.cons .non .nil)), pg0 (es := [.int _, .none]) (fun x hx => by
              simp only [List.mem_cons, List.not_mem_nil, or_false] at hx
              rcases hx with rfl | rfl
              · exact pgi ⟨by decide, by decide⟩
              · exact pgn) (show 2 ≤ 10 by decide)⟩
        have hd : Dp K G2 (.ref t) (.tuple (xs'.map dOf)) := .tup (sqT_same sG hxN) (dp_els hlf)
        have he := Dp.same sG hu
        clear hu ge1 ge2 ge3 ge4 ge5 gel
        repeat (first | (refine And.intro ?_ ?_; · (first | exact rfl | (show (_ : Int) ≤ _; omega) | (show (_ : Int) < _; omega) | assumption | exact SqL.of upd_same | exact SqT.of upd_same | exact upd_same | exact Drew.at_ (by assumption) | exact at_of (j := 0) rfl rfl | exact at_of (j := 1) rfl rfl | exact at_of (j := 2) rfl rfl | exact at_of (j := 3) rfl rfl | exact .inr (by assumption) | exact .inl (by assumption) | exact .ty _ | exact dp_ty (by assumption) | exact kit_strD _ | exact kit_tupD _ | exact kit_intD _ | exact kit_boolD _ | exact ⟨_, rfl⟩ | decide | omega | exact (show 0 ≤ sizeLine by decide) | exact (show 1 ≤ sizeLine by decide) | exact (show 2 ≤ sizeLine by decide) | exact (show 3 ≤ sizeLine by decide) | exact (show 4 ≤ sizeLine by decide) | exact (show 5 ≤ sizeLine by decide) | exact (show 6 ≤ sizeLine by decide) | decide +kernel)) | apply Exists.intro | refine iteT ?_ | refine iteF ?_)
        intro r1 K2 h1 s1
        have hd1 := Dp.same s1 hd
        have he1 := Dp.same s1 he
        repeat (first | (refine And.intro ?_ ?_; · (first | exact rfl | (show (_ : Int) ≤ _; omega) | (show (_ : Int) < _; omega) | assumption | exact SqL.of upd_same | exact SqT.of upd_same | exact upd_same | exact Drew.at_ (by assumption) | exact at_of (j := 0) rfl rfl | exact at_of (j := 1) rfl rfl | exact at_of (j := 2) rfl rfl | exact at_of (j := 3) rfl rfl | exact .inr (by assumption) | exact .inl (by assumption) | exact .ty _ | exact dp_ty (by assumption) | exact kit_strD _ | exact kit_tupD _ | exact kit_intD _ | exact kit_boolD _ | exact ⟨_, rfl⟩ | decide | omega | exact (show 0 ≤ sizeLine by decide) | exact (show 1 ≤ sizeLine by decide) | exact (show 2 ≤ sizeLine by decide) | exact (show 3 ≤ sizeLine by decide) | exact (show 4 ≤ sizeLine by decide) | exact (show 5 ≤ sizeLine by decide) | exact (show 6 ≤ sizeLine by decide) | decide +kernel)) | apply Exists.intro | refine iteT ?_ | refine iteF ?_)
        intro r2 K3 h2 s2
        obtain rfl := same_r h1 h2
        refine ⟨_, _, rfl, rfl, ?_⟩
        repeat (first | (refine And.intro ?_ ?_; · (first | exact rfl | (show (_ : Int) ≤ _; omega) | (show (_ : Int) < _; omega) | assumption | exact SqL.of upd_same | exact SqT.of upd_same | exact upd_same | exact Drew.at_ (by assumption) | exact at_of (j := 0) rfl rfl | exact at_of (j := 1) rfl rfl | exact at_of (j := 2) rfl rfl | exact at_of (j := 3) rfl rfl | exact .inr (by assumption) | exact .inl (by assumption) | exact .ty _ | exact dp_ty (by assumption) | exact kit_strD _ | exact kit_tupD _ | exact kit_intD _ | exact kit_boolD _ | exact ⟨_, rfl⟩ | decide | omega | exact (show 0 ≤ sizeLine by decide) | exact (show 1 ≤ sizeLine by decide) | exact (show 2 ≤ sizeLine by decide) | exact (show 3 ≤ sizeLine by decide) | exact (show 4 ≤ sizeLine by decide) | exact (show 5 ≤ sizeLine by decide) | exact (show 6 ≤ sizeLine by decide) | decide +kernel)) | apply Exists.intro | refine iteT ?_ | refine iteF ?_)
        refine ifn (fun c => absurd rfl c) (fun _ => ?_)
        exact ⟨fun x o e => s2 _ _ (s1 _ _ (sG _ _ e)), _, rfl⟩
      · rintro σ G2 ⟨sG, v7, rfl⟩
        exact ⟨(d5.same sN6).same sG, _, _, rfl⟩
    · rintro σ G ⟨d5, v5, v6, rfl⟩
      have hpG := d5.at_
      repeat (first | (refine And.intro ?_ ?_; · (first | exact rfl | (show (_ : Int) ≤ _; omega) | (show (_ : Int) < _; omega) | assumption | exact SqL.of upd_same | exact SqT.of upd_same | exact upd_same | exact Drew.at_ (by assumption) | exact at_of (j := 0) rfl rfl | exact at_of (j := 1) rfl rfl | exact at_of (j := 2) rfl rfl | exact at_of (j := 3) rfl rfl | exact .inr (by assumption) | exact .inl (by assumption) | exact .ty _ | exact dp_ty (by assumption) | exact kit_strD _ | exact kit_tupD _ | exact kit_intD _ | exact kit_boolD _ | exact ⟨_, rfl⟩ | decide | omega | exact (show 0 ≤ sizeLine by decide) | exact (show 1 ≤ sizeLine by decide) | exact (show 2 ≤ sizeLine by decide) | exact (show 3 ≤ sizeLine by decide) | exact (show 4 ≤ sizeLine by decide) | exact (show 5 ≤ sizeLine by decide) | exact (show 6 ≤ sizeLine by decide) | decide +kernel)) | apply Exists.intro | refine iteT ?_ | refine iteF ?_)
      intro y1 hy1
      have zG1 : Same G (upd G y1 (.tup [.str "payload", .str lt, .int (10 ^ 60 - 1), .int (10 ^ 60 - 1)])) := up hy1
      have sG1 : Same G (upd G y1 (.tup [.str "payload", .str lt, .int (10 ^ 60 - 1), .int (10 ^ 60 - 1)])) := fun x o e => zG1 _ _ ((Same.refl G) _ _ e)
      have gy1 : upd G y1 (.tup [.str "payload", .str lt, .int (10 ^ 60 - 1), .int (10 ^ 60 - 1)]) y1 = some (.tup [.str "payload", .str lt, .int (10 ^ 60 - 1), .int (10 ^ 60 - 1)]) := upd_same
      generalize upd G y1 (.tup [.str "payload", .str lt, .int (10 ^ 60 - 1), .int (10 ^ 60 - 1)]) = G1 at *
      repeat (first | (refine And.intro ?_ ?_; · (first | exact rfl | (show (_ : Int) ≤ _; omega) | (show (_ : Int) < _; omega) | assumption | exact SqL.of upd_same | exact SqT.of upd_same | exact upd_same | exact Drew.at_ (by assumption) | exact at_of (j := 0) rfl rfl | exact at_of (j := 1) rfl rfl | exact at_of (j := 2) rfl rfl | exact at_of (j := 3) rfl rfl | exact .inr (by assumption) | exact .inl (by assumption) | exact .ty _ | exact dp_ty (by assumption) | exact kit_strD _ | exact kit_tupD _ | exact kit_intD _ | exact kit_boolD _ | exact ⟨_, rfl⟩ | decide | omega | exact (show 0 ≤ sizeLine by decide) | exact (show 1 ≤ sizeLine by decide) | exact (show 2 ≤ sizeLine by decide) | exact (show 3 ≤ sizeLine by decide) | exact (show 4 ≤ sizeLine by decide) | exact (show 5 ≤ sizeLine by decide) | exact (show 6 ≤ sizeLine by decide) | decide +kernel)) | apply Exists.intro | refine iteT ?_ | refine iteF ?_)
      intro y2 hy2
      have zG2 : Same G1 (upd G1 y2 (.tup [.int (10 ^ 60 - 1)])) := up hy2
      have sG2 : Same G (upd G1 y2 (.tup [.int (10 ^ 60 - 1)])) := fun x o e => zG2 _ _ (sG1 _ _ e)
      have gy2 : upd G1 y2 (.tup [.int (10 ^ 60 - 1)]) y2 = some (.tup [.int (10 ^ 60 - 1)]) := upd_same
      generalize upd G1 y2 (.tup [.int (10 ^ 60 - 1)]) = G2 at *
      have hpG2 := hpG.same sG2
      have hT3 : SqT K G2 y1 [.str "payload", .str lt, .int (10 ^ 60 - 1), .int (10 ^ 60 - 1)] := SqT.of (zG2 _ _ gy1)
      have hv3 : PageV K G2 (.ref y2) (.tuple (([10 ^ 60 - 1] : List Int).map PyData.int)) := .inl ⟨y2, [10 ^ 60 - 1], rfl, rfl, SqT.of gy2, (show 1 ≤ 3 by decide), fun i h => by rw [List.mem_singleton.mp h]; exact ⟨by decide, by decide⟩⟩
      repeat (first | (refine And.intro ?_ ?_; · (first | exact rfl | (show (_ : Int) ≤ _; omega) | (show (_ : Int) < _; omega) | assumption | exact SqL.of upd_same | exact SqT.of upd_same | exact upd_same | exact Drew.at_ (by assumption) | exact at_of (j := 0) rfl rfl | exact at_of (j := 1) rfl rfl | exact at_of (j := 2) rfl rfl | exact at_of (j := 3) rfl rfl | exact .inr (by assumption) | exact .inl (by assumption) | exact .ty _ | exact dp_ty (by assumption) | exact kit_strD _ | exact kit_tupD _ | exact kit_intD _ | exact kit_boolD _ | exact ⟨_, rfl⟩ | decide | omega | exact (show 0 ≤ sizeLine by decide) | exact (show 1 ≤ sizeLine by decide) | exact (show 2 ≤ sizeLine by decide) | exact (show 3 ≤ sizeLine by decide) | exact (show 4 ≤ sizeLine by decide) | exact (show 5 ≤ sizeLine by decide) | exact (show 6 ≤ sizeLine by decide) | decide +kernel)) | apply Exists.intro | refine iteT ?_ | refine iteF ?_)
      intro H20 d24
      exact k _ (((dM.trans d5).same sG2).trans d24)
end
theorem pick8 {a0 a1 a2 a3 a4 a5 a6 a7 r : Int} (r0 : 0 ≤ r) (r1 : r < 8) {Pr : Int → Prop} (h : Pr a0 ∧ Pr a1 ∧ Pr a2 ∧ Pr a3 ∧ Pr a4 ∧ Pr a5 ∧ Pr a6 ∧ Pr a7) : ∃ e, atI [V.int a0, .int a1, .int a2, .int a3, .int a4, .int a5, .int a6, .int a7] r = some (.int e) ∧ Pr e := by
  obtain ⟨h0, h1, h2, h3, h4, h5, h6, h7⟩ := h
  have r8 : r = 0 ∨ r = 1 ∨ r = 2 ∨ r = 3 ∨ r = 4 ∨ r = 5 ∨ r = 6 ∨ r = 7 := by omega
  rcases r8 with rfl | rfl | rfl | rfl | rfl | rfl | rfl | rfl
  · exact ⟨_, at_of (j := 0) rfl rfl, h0⟩
  · exact ⟨_, at_of (j := 1) rfl rfl, h1⟩
  · exact ⟨_, at_of (j := 2) rfl rfl, h2⟩
  · exact ⟨_, at_of (j := 3) rfl rfl, h3⟩
  · exact ⟨_, at_of (j := 4) rfl rfl, h4⟩
  · exact ⟨_, at_of (j := 5) rfl rfl, h5⟩
  · exact ⟨_, at_of (j := 6) rfl rfl, h6⟩
  · exact ⟨_, at_of (j := 7) rfl rfl, h7⟩
section
variable {P : Program} {w : World} {K : PySem.W.Frag} {mg : Str → Option Value} {base : Heap}
theorem ok_L_right (T : Tx w K mg) : PromG P w K mg base 13 "_law_right" s_L_right ["_law_cell_here"] spRightI := by
  refine PromG.of T.d_L_right sc_L_right (fun vs H Q E h => ?_) (fun _ _ _ _ _ _ us hl => match us, hl with | [_], _ => rfl) (fun f cdv A outer s H vs Q E hr hgd h => ?_)
  · obtain ⟨c, rfl, _⟩ := h
    rfl
  · obtain ⟨c, rfl, k⟩ := h
    refine ⟨_, (pss_cons (ps_set (i := 1) sc_L_right.nd rfl (Or.inl rfl) (pe_callP (ok_L_pool T) (hr.mono (by decide)) (by rfl) pass0 (pa_cons (pv 0) pa_nil)))
      (pss_cons (ps_par (i := 2) (j := 3) (by rfl) sc_L_right.nd rfl rfl (by decide) rfl rfl (pa_cons (pe_callP (ok_L_radix T) (hr.mono (by decide)) (by rfl) pass0 (pa_cons (pv 1) pa_nil)) (pa_cons (pe_callP (ok_L_tags T) (hr.mono (by decide)) (by rfl) pass0 (pa_cons (pv 1) (pa_cons (pe_callP (ok_L_draw T) (hr.mono (by decide)) (by rfl) pass0 (pa_cons (pv 1) (pa_cons pe_int pa_nil))) pa_nil))) pa_nil)) (by rfl))
      (pss_cons (ps_set (i := 4) sc_L_right.nd rfl (Or.inl rfl) (pe_callP (ok_L_length T) (hr.mono (by decide)) (by rfl) pass0 (pa_cons (pv 1) (pa_cons (pv 2) pa_nil))))
      (pss_cons (ps_par3 (i := 5) (j := 6) (l := 7) (by rfl) sc_L_right.nd rfl rfl rfl (by decide) (by decide) (by decide) rfl rfl rfl (pa_cons (pe_callP (ok_L_lines T) (hr.mono (by decide)) (by rfl) pass0 (pa_cons (pv 3) (pa_cons (pv 2) pa_nil))) (pa_cons (pe_callP (ok_L_long T) (hr.mono (by decide)) (by rfl) pass0 (pa_cons (pv 3) (pa_cons (pv 4) (pa_cons (pv 2) pa_nil)))) (pa_cons (pe_callP (ok_L_long T) (hr.mono (by decide)) (by rfl) pass0 (pa_cons (pv 3) (pa_cons (pe_op op_add (pv 4) pe_int) (pa_cons (pv 2) pa_nil)))) pa_nil))) (by rfl))
      (pss_cons (ps_par (i := 8) (j := 9) (by rfl) sc_L_right.nd rfl rfl (by decide) rfl rfl (pa_cons (pe_weak (pe_ifExp (pt_cmp (pc_lt (pv 4) (pe_op op_sub (pe_op op_pow pe_int pe_int) pe_int))) (pe_tup (pa_cons (pv 6) (pa_cons (pv 7) pa_nil))) (pe_tup (pa_cons (pv 6) pa_nil)))) (pa_cons (pe_callP (ok_L_draw T) (hr.mono (by decide)) (by rfl) pass0 (pa_cons (pv 1) (pa_cons pe_int pa_nil))) pa_nil)) (by rfl))
      (pss_cons (ps_set (i := 10) sc_L_right.nd rfl (Or.inl rfl) (pe_ix ix_list (pe_lst (pa_cons (pv 6) (pa_cons (pe_op op_sub (pv 7) pe_int) (pa_cons (pv 7) (pa_cons (pe_op op_sub (pv 6) pe_int) (pa_cons (pe_op op_add (pv 6) pe_int) (pa_cons (pe_op op_fdiv (pe_op op_add (pv 6) (pv 7)) pe_int) (pa_cons (pe_callB (call_min2 rfl) (by rfl) T.b_min (by decide +kernel) (pa_cons (pv 6) (pa_cons (pe_op op_sub (pe_op op_pow pe_int pe_int) pe_int) pa_nil))) (pa_cons (pv 6) pa_nil))))))))) (pv 9) (fun _ _ => rfl)))
      (pss_cons (ps_if (pt_not (pt_val (pe_callG (ok_L_judged_right T) hgd (hr.mono (by decide)) (by rfl) (pa_cons (pv 1) (pa_cons (pe_tup (pa_cons pe_str (pa_cons (pv 5) (pa_cons (pv 10) (pa_cons (pv 4) pa_nil))))) (pa_cons (pv 8) pa_nil)))))) (pss_one (ps_ret pe_bl)) pss_nil)
      (pss_cons (ps_set (i := 10) sc_L_right.nd rfl (Or.inl rfl) (pe_ix ix_list (pe_lst (pa_cons (pe_op op_add (pv 6) pe_int) (pa_cons (pe_op op_sub (pv 7) pe_int) (pa_cons (pv 6) (pa_cons (pv 7) (pa_cons (pe_op op_fdiv (pe_op op_add (pv 6) (pv 7)) pe_int) (pa_cons (pe_op op_add (pv 6) pe_int) (pa_cons (pe_op op_sub (pv 7) pe_int) (pa_cons (pe_op op_add (pv 6) pe_int) pa_nil))))))))) (pv 9) (fun _ _ => rfl)))
      (pss_cons (ps_if (pt_not (pt_val (pe_callG (ok_L_judged_right T) hgd (hr.mono (by decide)) (by rfl) (pa_cons (pv 1) (pa_cons (pe_tup (pa_cons pe_str (pa_cons (pv 5) (pa_cons (pv 10) pa_nil)))) (pa_cons (pv 4) pa_nil)))))) (pss_one (ps_ret pe_bl)) pss_nil)
      (pss_one (ps_ret (pe_callG (ok_L_judged_right T) hgd (hr.mono (by decide)) (by rfl) (pa_cons (pv 1) (pa_cons (pe_tup (pa_cons pe_str (pa_cons (pv 5) (pa_cons (pe_callP (ok_L_draw T) (hr.mono (by decide)) (by rfl) pass0 (pa_cons (pv 1) (pa_cons (pe_op op_add (pe_callP (ok_L_long T) (hr.mono (by decide)) (by rfl) pass0 (pa_cons (pv 3) (pa_cons pe_int (pa_cons (pv 2) pa_nil)))) pe_int) pa_nil))) pa_nil)))) (pa_cons (pe_tup pa_nil) pa_nil))))))))))))))), ?_⟩
    repeat (first | (refine And.intro ?_ ?_; · (first | exact rfl | (show (_ : Int) ≤ _; omega) | (show (_ : Int) < _; omega) | assumption | exact SqL.of upd_same | exact SqT.of upd_same | exact upd_same | exact Drew.at_ (by assumption) | exact at_of (j := 0) rfl rfl | exact at_of (j := 1) rfl rfl | exact at_of (j := 2) rfl rfl | exact at_of (j := 3) rfl rfl | exact .inr (by assumption) | exact .inl (by assumption) | exact .ty _ | exact dp_ty (by assumption) | exact kit_strD _ | exact kit_tupD _ | exact kit_intD _ | exact kit_boolD _ | exact ⟨_, rfl⟩ | decide | omega | exact (show 0 ≤ sizeLine by decide) | exact (show 1 ≤ sizeLine by decide) | exact (show 2 ≤ sizeLine by decide) | exact (show 3 ≤ sizeLine by decide) | exact (show 4 ≤ sizeLine by decide) | exact (show 5 ≤ sizeLine by decide) | exact (show 6 ≤ sizeLine by decide) | decide +kernel)) | apply Exists.intro | refine iteT ?_ | refine iteF ?_)
    intro p H1 p0 s1 hp
    repeat (first | (refine And.intro ?_ ?_; · (first | exact rfl | (show (_ : Int) ≤ _; omega) | (show (_ : Int) < _; omega) | assumption | exact SqL.of upd_same | exact SqT.of upd_same | exact upd_same | exact Drew.at_ (by assumption) | exact at_of (j := 0) rfl rfl | exact at_of (j := 1) rfl rfl | exact at_of (j := 2) rfl rfl | exact at_of (j := 3) rfl rfl | exact .inr (by assumption) | exact .inl (by assumption) | exact .ty _ | exact dp_ty (by assumption) | exact kit_strD _ | exact kit_tupD _ | exact kit_intD _ | exact kit_boolD _ | exact ⟨_, rfl⟩ | decide | omega | exact (show 0 ≤ sizeLine by decide) | exact (show 1 ≤ sizeLine by decide) | exact (show 2 ≤ sizeLine by decide) | exact (show 3 ≤ sizeLine by decide) | exact (show 4 ≤ sizeLine by decide) | exact (show 5 ≤ sizeLine by decide) | exact (show 6 ≤ sizeLine by decide) | decide +kernel)) | apply Exists.intro | refine iteT ?_ | refine iteF ?_)
    intro b H2 b0 b1 d2
    have hp2 := d2.at_
    repeat (first | (refine And.intro ?_ ?_; · (first | exact rfl | (show (_ : Int) ≤ _; omega) | (show (_ : Int) < _; omega) | assumption | exact SqL.of upd_same | exact SqT.of upd_same | exact upd_same | exact Drew.at_ (by assumption) | exact at_of (j := 0) rfl rfl | exact at_of (j := 1) rfl rfl | exact at_of (j := 2) rfl rfl | exact at_of (j := 3) rfl rfl | exact .inr (by assumption) | exact .inl (by assumption) | exact .ty _ | exact dp_ty (by assumption) | exact kit_strD _ | exact kit_tupD _ | exact kit_intD _ | exact kit_boolD _ | exact ⟨_, rfl⟩ | decide | omega | exact (show 0 ≤ sizeLine by decide) | exact (show 1 ≤ sizeLine by decide) | exact (show 2 ≤ sizeLine by decide) | exact (show 3 ≤ sizeLine by decide) | exact (show 4 ≤ sizeLine by decide) | exact (show 5 ≤ sizeLine by decide) | exact (show 6 ≤ sizeLine by decide) | decide +kernel)) | apply Exists.intro | refine iteT ?_ | refine iteF ?_)
    intro m H3 m0 m1 d3
    have hp3 := d3.at_
    repeat (first | (refine And.intro ?_ ?_; · (first | exact rfl | (show (_ : Int) ≤ _; omega) | (show (_ : Int) < _; omega) | assumption | exact SqL.of upd_same | exact SqT.of upd_same | exact upd_same | exact Drew.at_ (by assumption) | exact at_of (j := 0) rfl rfl | exact at_of (j := 1) rfl rfl | exact at_of (j := 2) rfl rfl | exact at_of (j := 3) rfl rfl | exact .inr (by assumption) | exact .inl (by assumption) | exact .ty _ | exact dp_ty (by assumption) | exact kit_strD _ | exact kit_tupD _ | exact kit_intD _ | exact kit_boolD _ | exact ⟨_, rfl⟩ | decide | omega | exact (show 0 ≤ sizeLine by decide) | exact (show 1 ≤ sizeLine by decide) | exact (show 2 ≤ sizeLine by decide) | exact (show 3 ≤ sizeLine by decide) | exact (show 4 ≤ sizeLine by decide) | exact (show 5 ≤ sizeLine by decide) | exact (show 6 ≤ sizeLine by decide) | decide +kernel)) | apply Exists.intro | refine iteT ?_ | refine iteF ?_)
    intro l xs ws H4 d4 nl hl ht ok wl
    have hp4 := d4.at_
    have lp : l ≠ p := PurseAt.ne hp3 nl
    have w6 : ws.length ≤ 6 := by omega
    have w7 : ws.length ≤ 7 := by omega
    repeat (first | (refine And.intro ?_ ?_; · (first | exact rfl | (show (_ : Int) ≤ _; omega) | (show (_ : Int) < _; omega) | assumption | exact SqL.of upd_same | exact SqT.of upd_same | exact upd_same | exact Drew.at_ (by assumption) | exact at_of (j := 0) rfl rfl | exact at_of (j := 1) rfl rfl | exact at_of (j := 2) rfl rfl | exact at_of (j := 3) rfl rfl | exact .inr (by assumption) | exact .inl (by assumption) | exact .ty _ | exact dp_ty (by assumption) | exact kit_strD _ | exact kit_tupD _ | exact kit_intD _ | exact kit_boolD _ | exact ⟨_, rfl⟩ | decide | omega | exact (show 0 ≤ sizeLine by decide) | exact (show 1 ≤ sizeLine by decide) | exact (show 2 ≤ sizeLine by decide) | exact (show 3 ≤ sizeLine by decide) | exact (show 4 ≤ sizeLine by decide) | exact (show 5 ≤ sizeLine by decide) | exact (show 6 ≤ sizeLine by decide) | decide +kernel)) | apply Exists.intro | refine iteT ?_ | refine iteF ?_)
    intro n H5 n0 n1 d5
    have hl5 := d5.kp l _ lp hl
    have ht5 := Drew.tags d5 hp4 ht
    have n2 : 0 ≤ n + 1 := by omega
    repeat (first | (refine And.intro ?_ ?_; · (first | exact rfl | (show (_ : Int) ≤ _; omega) | (show (_ : Int) < _; omega) | assumption | exact SqL.of upd_same | exact SqT.of upd_same | exact upd_same | exact Drew.at_ (by assumption) | exact at_of (j := 0) rfl rfl | exact at_of (j := 1) rfl rfl | exact at_of (j := 2) rfl rfl | exact at_of (j := 3) rfl rfl | exact .inr (by assumption) | exact .inl (by assumption) | exact .ty _ | exact dp_ty (by assumption) | exact kit_strD _ | exact kit_tupD _ | exact kit_intD _ | exact kit_boolD _ | exact ⟨_, rfl⟩ | decide | omega | exact (show 0 ≤ sizeLine by decide) | exact (show 1 ≤ sizeLine by decide) | exact (show 2 ≤ sizeLine by decide) | exact (show 3 ≤ sizeLine by decide) | exact (show 4 ≤ sizeLine by decide) | exact (show 5 ≤ sizeLine by decide) | exact (show 6 ≤ sizeLine by decide) | decide +kernel)) | apply Exists.intro | refine iteT ?_ | refine iteF ?_)
    intro lt H6 g6 f6 s6
    have hl6 := s6 _ _ hl5
    have ht6 := ht5.same s6
    repeat (first | (refine And.intro ?_ ?_; · (first | exact rfl | (show (_ : Int) ≤ _; omega) | (show (_ : Int) < _; omega) | assumption | exact SqL.of upd_same | exact SqT.of upd_same | exact upd_same | exact Drew.at_ (by assumption) | exact at_of (j := 0) rfl rfl | exact at_of (j := 1) rfl rfl | exact at_of (j := 2) rfl rfl | exact at_of (j := 3) rfl rfl | exact .inr (by assumption) | exact .inl (by assumption) | exact .ty _ | exact dp_ty (by assumption) | exact kit_strD _ | exact kit_tupD _ | exact kit_intD _ | exact kit_boolD _ | exact ⟨_, rfl⟩ | decide | omega | exact (show 0 ≤ sizeLine by decide) | exact (show 1 ≤ sizeLine by decide) | exact (show 2 ≤ sizeLine by decide) | exact (show 3 ≤ sizeLine by decide) | exact (show 4 ≤ sizeLine by decide) | exact (show 5 ≤ sizeLine by decide) | exact (show 6 ≤ sizeLine by decide) | decide +kernel)) | apply Exists.intro | refine iteT ?_ | refine iteF ?_)
    intro H7 s7
    have hl7 := s7 _ _ hl6
    have ht7 := ht6.same s7
    repeat (first | (refine And.intro ?_ ?_; · (first | exact rfl | (show (_ : Int) ≤ _; omega) | (show (_ : Int) < _; omega) | assumption | exact SqL.of upd_same | exact SqT.of upd_same | exact upd_same | exact Drew.at_ (by assumption) | exact at_of (j := 0) rfl rfl | exact at_of (j := 1) rfl rfl | exact at_of (j := 2) rfl rfl | exact at_of (j := 3) rfl rfl | exact .inr (by assumption) | exact .inl (by assumption) | exact .ty _ | exact dp_ty (by assumption) | exact kit_strD _ | exact kit_tupD _ | exact kit_intD _ | exact kit_boolD _ | exact ⟨_, rfl⟩ | decide | omega | exact (show 0 ≤ sizeLine by decide) | exact (show 1 ≤ sizeLine by decide) | exact (show 2 ≤ sizeLine by decide) | exact (show 3 ≤ sizeLine by decide) | exact (show 4 ≤ sizeLine by decide) | exact (show 5 ≤ sizeLine by decide) | exact (show 6 ≤ sizeLine by decide) | decide +kernel)) | apply Exists.intro | refine iteT ?_ | refine iteF ?_)
    intro H8 s8
    have gr0 := grS_pow (b := b) b0 ws ok (k := 200) (by decide) n0 (Int.lt_of_le_of_lt n1 (by decide))
    have gr1 := grS_pow (b := b) b0 ws ok (k := 200) (n := n + 1) (by decide) n2 (Int.lt_of_le_of_lt (show n + 1 ≤ 10 ^ 60 by omega) (by decide))
    have p2 : (2 : Int) ^ (200 + 8 * ws.length) ≤ 2 ^ 248 := pow_mono (by decide) (by omega)
    have p3 : (2 : Int) ^ 248 + 10 ≤ 10 ^ 100 := by decide
    have d8 : Drew p H1 H8 := ((((((d2.trans d3).trans d4).trans d5).same s6).same s7).same s8)
    have hp8 := d8.at_
    have hl8 := s8 _ _ hl7
    have ht8 := ht7.same s8
    obtain ⟨low, elow, lo0, lo1⟩ : ∃ z, grS b ws n = z ∧ 0 ≤ z ∧ z ≤ 2 ^ 248 := ⟨_, rfl, gr0.1, by omega⟩
    obtain ⟨high, ehigh, hi0, hi1⟩ : ∃ z, grS b ws (n + 1) = z ∧ 0 ≤ z ∧ z ≤ 2 ^ 248 := ⟨_, rfl, gr1.1, by omega⟩
    rw [elow, ehigh]
    clear elow ehigh gr0 gr1 p2 d2 d3 d4 d5 s6 s7 s8 ht ht5 ht6 ht7 hl hl5 hl6 hl7 hp2 hp3 hp4 nl m0 m1
    have cp : CPow 10 60 := ⟨by decide, by decide, by decide⟩
    repeat (first | (refine And.intro ?_ ?_; · (first | exact rfl | (show (_ : Int) ≤ _; omega) | (show (_ : Int) < _; omega) | assumption | exact SqL.of upd_same | exact SqT.of upd_same | exact upd_same | exact Drew.at_ (by assumption) | exact at_of (j := 0) rfl rfl | exact at_of (j := 1) rfl rfl | exact at_of (j := 2) rfl rfl | exact at_of (j := 3) rfl rfl | exact .inr (by assumption) | exact .inl (by assumption) | exact .ty _ | exact dp_ty (by assumption) | exact kit_strD _ | exact kit_tupD _ | exact kit_intD _ | exact kit_boolD _ | exact ⟨_, rfl⟩ | decide | omega | exact (show 0 ≤ sizeLine by decide) | exact (show 1 ≤ sizeLine by decide) | exact (show 2 ≤ sizeLine by decide) | exact (show 3 ≤ sizeLine by decide) | exact (show 4 ≤ sizeLine by decide) | exact (show 5 ≤ sizeLine by decide) | exact (show 6 ≤ sizeLine by decide) | decide +kernel)) | apply Exists.intro | refine iteT ?_ | refine iteF ?_)
    refine ⟨fun v H9 (hP : Same H8 H9 ∧ ∃ (t : Addr) (ns : List Int), v = .ref t ∧ H9 t = some (.tup (ns.map V.int)) ∧ PgT ns) => ?_, ?_⟩; rotate_left
    · repeat (first | (refine And.intro ?_ ?_; · (first | exact rfl | (show (_ : Int) ≤ _; omega) | (show (_ : Int) < _; omega) | assumption | exact SqL.of upd_same | exact SqT.of upd_same | exact upd_same | exact Drew.at_ (by assumption) | exact at_of (j := 0) rfl rfl | exact at_of (j := 1) rfl rfl | exact at_of (j := 2) rfl rfl | exact at_of (j := 3) rfl rfl | exact .inr (by assumption) | exact .inl (by assumption) | exact .ty _ | exact dp_ty (by assumption) | exact kit_strD _ | exact kit_tupD _ | exact kit_intD _ | exact kit_boolD _ | exact ⟨_, rfl⟩ | decide | omega | exact (show 0 ≤ sizeLine by decide) | exact (show 1 ≤ sizeLine by decide) | exact (show 2 ≤ sizeLine by decide) | exact (show 3 ≤ sizeLine by decide) | exact (show 4 ≤ sizeLine by decide) | exact (show 5 ≤ sizeLine by decide) | exact (show 6 ≤ sizeLine by decide) | decide +kernel)) | apply Exists.intro | refine iteT ?_ | refine iteF ?_)
      refine ifd (fun c0 => ?_) (fun c0 => ?_)
      · repeat (first | (refine And.intro ?_ ?_; · (first | exact rfl | (show (_ : Int) ≤ _; omega) | (show (_ : Int) < _; omega) | assumption | exact SqL.of upd_same | exact SqT.of upd_same | exact upd_same | exact Drew.at_ (by assumption) | exact at_of (j := 0) rfl rfl | exact at_of (j := 1) rfl rfl | exact at_of (j := 2) rfl rfl | exact at_of (j := 3) rfl rfl | exact .inr (by assumption) | exact .inl (by assumption) | exact .ty _ | exact dp_ty (by assumption) | exact kit_strD _ | exact kit_tupD _ | exact kit_intD _ | exact kit_boolD _ | exact ⟨_, rfl⟩ | decide | omega | exact (show 0 ≤ sizeLine by decide) | exact (show 1 ≤ sizeLine by decide) | exact (show 2 ≤ sizeLine by decide) | exact (show 3 ≤ sizeLine by decide) | exact (show 4 ≤ sizeLine by decide) | exact (show 5 ≤ sizeLine by decide) | exact (show 6 ≤ sizeLine by decide) | decide +kernel)) | apply Exists.intro | refine iteT ?_ | refine iteF ?_)
        intro t ht
        refine ⟨up ht, t, [low, high], rfl, upd_same, (show 2 ≤ 3 by decide), fun i hi => ?_⟩
        simp only [List.mem_cons, List.not_mem_nil, or_false] at hi
        rcases hi with rfl | rfl <;> omega
      · repeat (first | (refine And.intro ?_ ?_; · (first | exact rfl | (show (_ : Int) ≤ _; omega) | (show (_ : Int) < _; omega) | assumption | exact SqL.of upd_same | exact SqT.of upd_same | exact upd_same | exact Drew.at_ (by assumption) | exact at_of (j := 0) rfl rfl | exact at_of (j := 1) rfl rfl | exact at_of (j := 2) rfl rfl | exact at_of (j := 3) rfl rfl | exact .inr (by assumption) | exact .inl (by assumption) | exact .ty _ | exact dp_ty (by assumption) | exact kit_strD _ | exact kit_tupD _ | exact kit_intD _ | exact kit_boolD _ | exact ⟨_, rfl⟩ | decide | omega | exact (show 0 ≤ sizeLine by decide) | exact (show 1 ≤ sizeLine by decide) | exact (show 2 ≤ sizeLine by decide) | exact (show 3 ≤ sizeLine by decide) | exact (show 4 ≤ sizeLine by decide) | exact (show 5 ≤ sizeLine by decide) | exact (show 6 ≤ sizeLine by decide) | decide +kernel)) | apply Exists.intro | refine iteT ?_ | refine iteF ?_)
        intro t ht
        refine ⟨up ht, t, [low], rfl, upd_same, (show 1 ≤ 3 by decide), fun i hi => ?_⟩
        rw [List.mem_singleton.mp hi]
        omega
    obtain ⟨s9, t, ns, rfl, gt, hpg⟩ := hP
    have d9 := d8.same s9
    have hp9 := d9.at_
    have hl9 := s9 _ _ hl8
    have ht9 := ht8.same s9
    repeat (first | (refine And.intro ?_ ?_; · (first | exact rfl | (show (_ : Int) ≤ _; omega) | (show (_ : Int) < _; omega) | assumption | exact SqL.of upd_same | exact SqT.of upd_same | exact upd_same | exact Drew.at_ (by assumption) | exact at_of (j := 0) rfl rfl | exact at_of (j := 1) rfl rfl | exact at_of (j := 2) rfl rfl | exact at_of (j := 3) rfl rfl | exact .inr (by assumption) | exact .inl (by assumption) | exact .ty _ | exact dp_ty (by assumption) | exact kit_strD _ | exact kit_tupD _ | exact kit_intD _ | exact kit_boolD _ | exact ⟨_, rfl⟩ | decide | omega | exact (show 0 ≤ sizeLine by decide) | exact (show 1 ≤ sizeLine by decide) | exact (show 2 ≤ sizeLine by decide) | exact (show 3 ≤ sizeLine by decide) | exact (show 4 ≤ sizeLine by decide) | exact (show 5 ≤ sizeLine by decide) | exact (show 6 ≤ sizeLine by decide) | decide +kernel)) | apply Exists.intro | refine iteT ?_ | refine iteF ?_)
    intro r H10 r0 r1 d10
    have d11 := d9.trans d10
    have hp10 := d10.at_
    have hl10 := d10.kp l _ lp hl9
    have ht10 := Drew.tags d10 hp9 ht9
    have gt10 := d10.keep hp9 gt (fun _ z => by cases z)
    refine ⟨_, _, rfl, ?_⟩
    refine st_eq [some (.int c), some (.ref p), some (.int b), some (.ref l), some (.int n), some (.str lt), some (.int low), some (.int high), some (.ref t), some (.int r), none] rfl ?_
    have c2 : CDiv (low + high) 2 := ⟨by decide, by decide⟩
    clear d8 d9 d10 s9 hl8 hl9 ht8 ht9 hp8 hp9 gt
    repeat (first | (refine And.intro ?_ ?_; · (first | exact rfl | (show (_ : Int) ≤ _; omega) | (show (_ : Int) < _; omega) | assumption | exact SqL.of upd_same | exact SqT.of upd_same | exact upd_same | exact Drew.at_ (by assumption) | exact at_of (j := 0) rfl rfl | exact at_of (j := 1) rfl rfl | exact at_of (j := 2) rfl rfl | exact at_of (j := 3) rfl rfl | exact .inr (by assumption) | exact .inl (by assumption) | exact .ty _ | exact dp_ty (by assumption) | exact kit_strD _ | exact kit_tupD _ | exact kit_intD _ | exact kit_boolD _ | exact ⟨_, rfl⟩ | decide | omega | exact (show 0 ≤ sizeLine by decide) | exact (show 1 ≤ sizeLine by decide) | exact (show 2 ≤ sizeLine by decide) | exact (show 3 ≤ sizeLine by decide) | exact (show 4 ≤ sizeLine by decide) | exact (show 5 ≤ sizeLine by decide) | exact (show 6 ≤ sizeLine by decide) | decide +kernel)) | apply Exists.intro | refine iteT ?_ | refine iteF ?_)
    refine ⟨(show 8 ≤ sizeLine by decide), fun e1 he1 => ?_⟩
    obtain ⟨e, he, eb⟩ := pick8 (a0 := low) (a1 := high - 1) (a2 := high) (a3 := low - 1) (a4 := low + 1) (a5 := (low + high) / 2) (a6 := if (10 ^ Int.toNat 60 - 1 : Int) < low then (10 ^ Int.toNat 60 - 1 : Int) else low) (a7 := low) r0 r1 (Pr := fun z => -10 ^ 100 ≤ z ∧ z ≤ 10 ^ 100) (by
      have q1 : (low + high) / 2 ≤ 2 ^ 248 := by omega
      have q2 : 0 ≤ (low + high) / 2 := by omega
      refine ⟨⟨by omega, by omega⟩, ⟨by omega, by omega⟩, ⟨by omega, by omega⟩, ⟨by omega, by omega⟩, ⟨by omega, by omega⟩, ⟨by omega, by omega⟩, ?_, ⟨by omega, by omega⟩⟩
      split
      · exact ⟨by decide, by decide⟩
      · exact ⟨by omega, by omega⟩)
    have d12 := d11.new (o := .lst [V.int low, .int (high - 1), .int high, .int (low - 1), .int (low + 1), .int ((low + high) / 2), .int (if (10 ^ Int.toNat 60 - 1 : Int) < low then (10 ^ Int.toNat 60 - 1 : Int) else low), .int low]) he1
    have hl12 := up (o := .lst [V.int low, .int (high - 1), .int high, .int (low - 1), .int (low + 1), .int ((low + high) / 2), .int (if (10 ^ Int.toNat 60 - 1 : Int) < low then (10 ^ Int.toNat 60 - 1 : Int) else low), .int low]) he1 _ _ hl10
    have ht12 := ht10.same (up (o := .lst [V.int low, .int (high - 1), .int high, .int (low - 1), .int (low + 1), .int ((low + high) / 2), .int (if (10 ^ Int.toNat 60 - 1 : Int) < low then (10 ^ Int.toNat 60 - 1 : Int) else low), .int low]) he1)
    have gt12 := up (o := .lst [V.int low, .int (high - 1), .int high, .int (low - 1), .int (low + 1), .int ((low + high) / 2), .int (if (10 ^ Int.toNat 60 - 1 : Int) < low then (10 ^ Int.toNat 60 - 1 : Int) else low), .int low]) he1 _ _ gt10
    refine ⟨_, rfl, e1, _, _, _, rfl, rfl, SqL.of upd_same, he, ?_⟩
    refine hp_eq _ rfl ?_
    generalize upd H10 e1 _ = H12 at *
    refine st_eq [some (.int c), some (.ref p), some (.int b), some (.ref l), some (.int n), some (.str lt), some (.int low), some (.int high), some (.ref t), some (.int r), some (.int e)] rfl ?_
    have lfT : LeafOk (.str lt) := .inr ⟨_, rfl, Nat.le_trans g6.1 (by decide), g6.2⟩
    have lfI : ∀ {z : Int}, -10 ^ 100 ≤ z ∧ z ≤ 10 ^ 100 → LeafOk (.int z) := fun {z} h => .inl ⟨z, rfl, h⟩
    have nb : -10 ^ 100 ≤ n ∧ n ≤ 10 ^ 100 := ⟨by omega, Int.le_trans n1 (by decide)⟩
    have clmP : ∀ {z : Int}, -10 ^ 100 ≤ z ∧ z ≤ 10 ^ 100 → Clm [.str "payload", .str lt, .int z, .int n] := fun {z} hz => ⟨"payload", lt, z, [n], rfl, (show 1 ≤ 1 by decide), .head _, f6, by
      intro v hv
      simp only [List.mem_cons, List.not_mem_nil, or_false] at hv
      rcases hv with rfl | rfl | rfl | rfl
      · exact .inr ⟨_, rfl, by decide, by decide +kernel⟩
      · exact lfT
      · exact lfI hz
      · exact lfI nb⟩
    have clmM : ∀ {z : Int}, -10 ^ 100 ≤ z ∧ z ≤ 10 ^ 100 → Clm [.str "missed", .str lt, .int z] := fun {z} hz => ⟨"missed", lt, z, [], rfl, (show 0 ≤ 1 by decide), .tail _ (.head _), f6, by
      intro v hv
      simp only [List.mem_cons, List.not_mem_nil, or_false] at hv
      rcases hv with rfl | rfl | rfl
      · exact .inr ⟨_, rfl, by decide, by decide +kernel⟩
      · exact lfT
      · exact lfI hz⟩
    repeat (first | (refine And.intro ?_ ?_; · (first | exact rfl | (show (_ : Int) ≤ _; omega) | (show (_ : Int) < _; omega) | assumption | exact SqL.of upd_same | exact SqT.of upd_same | exact upd_same | exact Drew.at_ (by assumption) | exact at_of (j := 0) rfl rfl | exact at_of (j := 1) rfl rfl | exact at_of (j := 2) rfl rfl | exact at_of (j := 3) rfl rfl | exact .inr (by assumption) | exact .inl (by assumption) | exact .ty _ | exact dp_ty (by assumption) | exact kit_strD _ | exact kit_tupD _ | exact kit_intD _ | exact kit_boolD _ | exact ⟨_, rfl⟩ | decide | omega | exact (show 0 ≤ sizeLine by decide) | exact (show 1 ≤ sizeLine by decide) | exact (show 2 ≤ sizeLine by decide) | exact (show 3 ≤ sizeLine by decide) | exact (show 4 ≤ sizeLine by decide) | exact (show 5 ≤ sizeLine by decide) | exact (show 6 ≤ sizeLine by decide) | decide +kernel)) | apply Exists.intro | refine iteT ?_ | refine iteF ?_)
    intro t1 ht1
    have zH13 : Same H12 (upd H12 t1 (.tup [.str "payload", .str lt, .int e, .int n])) := up ht1
    have sH13 : Same H12 (upd H12 t1 (.tup [.str "payload", .str lt, .int e, .int n])) := fun x o e => zH13 _ _ ((Same.refl H12) _ _ e)
    have gt1 : upd H12 t1 (.tup [.str "payload", .str lt, .int e, .int n]) t1 = some (.tup [.str "payload", .str lt, .int e, .int n]) := upd_same
    generalize upd H12 t1 (.tup [.str "payload", .str lt, .int e, .int n]) = H13 at *
    have d13 := d12.same zH13
    have hp13 := d13.at_
    have hT1 : SqT K H13 t1 [.str "payload", .str lt, .int e, .int n] := SqT.of gt1
    have hv1 : PageV K H13 (.ref t) (.tuple (ns.map PyData.int)) := .inl ⟨t, ns, rfl, rfl, SqT.of (zH13 _ _ gt12), hpg⟩
    have hc1 := clmP eb
    have hl13 := zH13 _ _ hl12
    have ht13 := ht12.same zH13
    repeat (first | (refine And.intro ?_ ?_; · (first | exact rfl | (show (_ : Int) ≤ _; omega) | (show (_ : Int) < _; omega) | assumption | exact SqL.of upd_same | exact SqT.of upd_same | exact upd_same | exact Drew.at_ (by assumption) | exact at_of (j := 0) rfl rfl | exact at_of (j := 1) rfl rfl | exact at_of (j := 2) rfl rfl | exact at_of (j := 3) rfl rfl | exact .inr (by assumption) | exact .inl (by assumption) | exact .ty _ | exact dp_ty (by assumption) | exact kit_strD _ | exact kit_tupD _ | exact kit_intD _ | exact kit_boolD _ | exact ⟨_, rfl⟩ | decide | omega | exact (show 0 ≤ sizeLine by decide) | exact (show 1 ≤ sizeLine by decide) | exact (show 2 ≤ sizeLine by decide) | exact (show 3 ≤ sizeLine by decide) | exact (show 4 ≤ sizeLine by decide) | exact (show 5 ≤ sizeLine by decide) | exact (show 6 ≤ sizeLine by decide) | decide +kernel)) | apply Exists.intro | refine iteT ?_ | refine iteF ?_)
    intro H14 d14
    have d15 := d13.trans d14
    have hp14 := d14.at_
    have hl14 := d14.kp l _ lp hl13
    have ht14 := Drew.tags d14 hp13 ht13
    clear d11 d12 d13 hT1 hv1 hc1 hl12 hl13 ht12 ht13 gt12 gt10 hl10 ht10
    repeat (first | (refine And.intro ?_ ?_; · (first | exact rfl | (show (_ : Int) ≤ _; omega) | (show (_ : Int) < _; omega) | assumption | exact SqL.of upd_same | exact SqT.of upd_same | exact upd_same | exact Drew.at_ (by assumption) | exact at_of (j := 0) rfl rfl | exact at_of (j := 1) rfl rfl | exact at_of (j := 2) rfl rfl | exact at_of (j := 3) rfl rfl | exact .inr (by assumption) | exact .inl (by assumption) | exact .ty _ | exact dp_ty (by assumption) | exact kit_strD _ | exact kit_tupD _ | exact kit_intD _ | exact kit_boolD _ | exact ⟨_, rfl⟩ | decide | omega | exact (show 0 ≤ sizeLine by decide) | exact (show 1 ≤ sizeLine by decide) | exact (show 2 ≤ sizeLine by decide) | exact (show 3 ≤ sizeLine by decide) | exact (show 4 ≤ sizeLine by decide) | exact (show 5 ≤ sizeLine by decide) | exact (show 6 ≤ sizeLine by decide) | decide +kernel)) | apply Exists.intro | refine iteT ?_ | refine iteF ?_)
    refine ⟨(show 8 ≤ sizeLine by decide), fun e2 he2 => ?_⟩
    obtain ⟨e', he', eb'⟩ := pick8 (a0 := low + 1) (a1 := high - 1) (a2 := low) (a3 := high) (a4 := (low + high) / 2) (a5 := low + 1) (a6 := high - 1) (a7 := low + 2) r0 r1 (Pr := fun z => -10 ^ 100 ≤ z ∧ z ≤ 10 ^ 100) (by
      have q1 : (low + high) / 2 ≤ 2 ^ 248 := by omega
      have q2 : 0 ≤ (low + high) / 2 := by omega
      exact ⟨⟨by omega, by omega⟩, ⟨by omega, by omega⟩, ⟨by omega, by omega⟩, ⟨by omega, by omega⟩, ⟨by omega, by omega⟩, ⟨by omega, by omega⟩, ⟨by omega, by omega⟩, ⟨by omega, by omega⟩⟩)
    have z15 := up (o := .lst [V.int (low + 1), .int (high - 1), .int low, .int high, .int ((low + high) / 2), .int (low + 1), .int (high - 1), .int (low + 2)]) he2
    have d16 := d15.same z15
    have hl15 := z15 _ _ hl14
    have ht15 := ht14.same z15
    refine ⟨_, rfl, e2, _, _, _, rfl, rfl, SqL.of upd_same, he', ?_⟩
    generalize upd H14 e2 _ = H15 at *
    refine st_eq [some (.int c), some (.ref p), some (.int b), some (.ref l), some (.int n), some (.str lt), some (.int low), some (.int high), some (.ref t), some (.int r), some (.int e')] rfl ?_
    repeat (first | (refine And.intro ?_ ?_; · (first | exact rfl | (show (_ : Int) ≤ _; omega) | (show (_ : Int) < _; omega) | assumption | exact SqL.of upd_same | exact SqT.of upd_same | exact upd_same | exact Drew.at_ (by assumption) | exact at_of (j := 0) rfl rfl | exact at_of (j := 1) rfl rfl | exact at_of (j := 2) rfl rfl | exact at_of (j := 3) rfl rfl | exact .inr (by assumption) | exact .inl (by assumption) | exact .ty _ | exact dp_ty (by assumption) | exact kit_strD _ | exact kit_tupD _ | exact kit_intD _ | exact kit_boolD _ | exact ⟨_, rfl⟩ | decide | omega | exact (show 0 ≤ sizeLine by decide) | exact (show 1 ≤ sizeLine by decide) | exact (show 2 ≤ sizeLine by decide) | exact (show 3 ≤ sizeLine by decide) | exact (show 4 ≤ sizeLine by decide) | exact (show 5 ≤ sizeLine by decide) | exact (show 6 ≤ sizeLine by decide) | decide +kernel)) | apply Exists.intro | refine iteT ?_ | refine iteF ?_)
    intro t2 ht2
    have zH16 : Same H15 (upd H15 t2 (.tup [.str "missed", .str lt, .int e'])) := up ht2
    have sH16 : Same H15 (upd H15 t2 (.tup [.str "missed", .str lt, .int e'])) := fun x o e => zH16 _ _ ((Same.refl H15) _ _ e)
    have gt2 : upd H15 t2 (.tup [.str "missed", .str lt, .int e']) t2 = some (.tup [.str "missed", .str lt, .int e']) := upd_same
    generalize upd H15 t2 (.tup [.str "missed", .str lt, .int e']) = H16 at *
    have d17 := d16.same zH16
    have hp16 := d17.at_
    have hT2 : SqT K H16 t2 [.str "missed", .str lt, .int e'] := SqT.of gt2
    have hv2 : PageV K H16 (.int n) (.int n) := .inr ⟨n, rfl, rfl, nb⟩
    have hc2 := clmM eb'
    have hl16 := zH16 _ _ hl15
    have ht16 := ht15.same zH16
    repeat (first | (refine And.intro ?_ ?_; · (first | exact rfl | (show (_ : Int) ≤ _; omega) | (show (_ : Int) < _; omega) | assumption | exact SqL.of upd_same | exact SqT.of upd_same | exact upd_same | exact Drew.at_ (by assumption) | exact at_of (j := 0) rfl rfl | exact at_of (j := 1) rfl rfl | exact at_of (j := 2) rfl rfl | exact at_of (j := 3) rfl rfl | exact .inr (by assumption) | exact .inl (by assumption) | exact .ty _ | exact dp_ty (by assumption) | exact kit_strD _ | exact kit_tupD _ | exact kit_intD _ | exact kit_boolD _ | exact ⟨_, rfl⟩ | decide | omega | exact (show 0 ≤ sizeLine by decide) | exact (show 1 ≤ sizeLine by decide) | exact (show 2 ≤ sizeLine by decide) | exact (show 3 ≤ sizeLine by decide) | exact (show 4 ≤ sizeLine by decide) | exact (show 5 ≤ sizeLine by decide) | exact (show 6 ≤ sizeLine by decide) | decide +kernel)) | apply Exists.intro | refine iteT ?_ | refine iteF ?_)
    intro H17 d18
    have d19 := d17.trans d18
    have hp17 := d18.at_
    have hl17 := d18.kp l _ lp hl16
    have ht17 := Drew.tags d18 hp16 ht16
    clear d15 d16 d17 d18 hT2 hv2 hc2 hl14 hl15 hl16 ht14 ht15 ht16
    have n00 : (0 : Int) ≤ 0 := Int.le_refl 0
    have gz := grS_pow (b := b) b0 ws ok (k := 12) (n := 0) (by decide) n00 (by decide)
    have pz : (2 : Int) ^ (12 + 8 * ws.length) ≤ 2 ^ 60 := pow_mono (by decide) (by omega)
    have pz2 : (2 : Int) ^ 60 + 10 ≤ 1000000000000000000000000000000 := by decide
    have gz0 := gz.1
    have gz1 : grS b ws 0 + 2 ≤ 2 ^ 60 + 10 := by have := gz.2; omega
    have gz1 := Int.le_trans gz1 pz2
    clear gz pz pz2
    repeat (first | (refine And.intro ?_ ?_; · (first | exact rfl | (show (_ : Int) ≤ _; omega) | (show (_ : Int) < _; omega) | assumption | exact SqL.of upd_same | exact SqT.of upd_same | exact upd_same | exact Drew.at_ (by assumption) | exact at_of (j := 0) rfl rfl | exact at_of (j := 1) rfl rfl | exact at_of (j := 2) rfl rfl | exact at_of (j := 3) rfl rfl | exact .inr (by assumption) | exact .inl (by assumption) | exact .ty _ | exact dp_ty (by assumption) | exact kit_strD _ | exact kit_tupD _ | exact kit_intD _ | exact kit_boolD _ | exact ⟨_, rfl⟩ | decide | omega | exact (show 0 ≤ sizeLine by decide) | exact (show 1 ≤ sizeLine by decide) | exact (show 2 ≤ sizeLine by decide) | exact (show 3 ≤ sizeLine by decide) | exact (show 4 ≤ sizeLine by decide) | exact (show 5 ≤ sizeLine by decide) | exact (show 6 ≤ sizeLine by decide) | decide +kernel)) | apply Exists.intro | refine iteT ?_ | refine iteF ?_)
    intro H18 s18
    have hp18 := hp17.same s18
    have d20 := d19.same s18
    generalize grS b ws 0 = g0 at *
    refine ⟨_, _, rfl, rfl, ?_⟩
    refine ⟨p, g0 + 2, rfl, hp18, by omega, gz1, fun y H19 y0 y1 d21 => ?_⟩
    have d22 := d20.trans d21
    have yb : -10 ^ 100 ≤ y ∧ y ≤ 10 ^ 100 := by
      have y2 : y ≤ 1000000000000000000000000000000 := by omega
      exact ⟨by omega, Int.le_trans y2 (by decide)⟩
    repeat (first | (refine And.intro ?_ ?_; · (first | exact rfl | (show (_ : Int) ≤ _; omega) | (show (_ : Int) < _; omega) | assumption | exact SqL.of upd_same | exact SqT.of upd_same | exact upd_same | exact Drew.at_ (by assumption) | exact at_of (j := 0) rfl rfl | exact at_of (j := 1) rfl rfl | exact at_of (j := 2) rfl rfl | exact at_of (j := 3) rfl rfl | exact .inr (by assumption) | exact .inl (by assumption) | exact .ty _ | exact dp_ty (by assumption) | exact kit_strD _ | exact kit_tupD _ | exact kit_intD _ | exact kit_boolD _ | exact ⟨_, rfl⟩ | decide | omega | exact (show 0 ≤ sizeLine by decide) | exact (show 1 ≤ sizeLine by decide) | exact (show 2 ≤ sizeLine by decide) | exact (show 3 ≤ sizeLine by decide) | exact (show 4 ≤ sizeLine by decide) | exact (show 5 ≤ sizeLine by decide) | exact (show 6 ≤ sizeLine by decide) | decide +kernel)) | apply Exists.intro | refine iteT ?_ | refine iteF ?_)
    intro t3 ht3
    have zK1 : Same H19 (upd H19 t3 (.tup [.str "missed", .str lt, .int y])) := up ht3
    have sK1 : Same H19 (upd H19 t3 (.tup [.str "missed", .str lt, .int y])) := fun x o e => zK1 _ _ ((Same.refl H19) _ _ e)
    have gt3 : upd H19 t3 (.tup [.str "missed", .str lt, .int y]) t3 = some (.tup [.str "missed", .str lt, .int y]) := upd_same
    generalize upd H19 t3 (.tup [.str "missed", .str lt, .int y]) = K1 at *
    repeat (first | (refine And.intro ?_ ?_; · (first | exact rfl | (show (_ : Int) ≤ _; omega) | (show (_ : Int) < _; omega) | assumption | exact SqL.of upd_same | exact SqT.of upd_same | exact upd_same | exact Drew.at_ (by assumption) | exact at_of (j := 0) rfl rfl | exact at_of (j := 1) rfl rfl | exact at_of (j := 2) rfl rfl | exact at_of (j := 3) rfl rfl | exact .inr (by assumption) | exact .inl (by assumption) | exact .ty _ | exact dp_ty (by assumption) | exact kit_strD _ | exact kit_tupD _ | exact kit_intD _ | exact kit_boolD _ | exact ⟨_, rfl⟩ | decide | omega | exact (show 0 ≤ sizeLine by decide) | exact (show 1 ≤ sizeLine by decide) | exact (show 2 ≤ sizeLine by decide) | exact (show 3 ≤ sizeLine by decide) | exact (show 4 ≤ sizeLine by decide) | exact (show 5 ≤ sizeLine by decide) | exact (show 6 ≤ sizeLine by decide) | decide +kernel)) | apply Exists.intro | refine iteT ?_ | refine iteF ?_)
    intro t4 ht4
    have zK2 : Same K1 (upd K1 t4 (.tup [])) := up ht4
    have sK2 : Same H19 (upd K1 t4 (.tup [])) := fun x o e => zK2 _ _ (sK1 _ _ e)
    have gt4 : upd K1 t4 (.tup []) t4 = some (.tup []) := upd_same
    generalize upd K1 t4 (.tup []) = K2 at *
    have d23 := d22.same sK2
    have hp23 := d23.at_
    have hT3 : SqT K K2 t3 [.str "missed", .str lt, .int y] := SqT.of (zK2 _ _ gt3)
    have hv3 : PageV K K2 (.ref t4) (.tuple (([] : List Int).map PyData.int)) := .inl ⟨t4, [], rfl, rfl, SqT.of gt4, (show 0 ≤ 3 by decide), fun _ h => by cases h⟩
    have hc3 := clmM yb
    repeat (first | (refine And.intro ?_ ?_; · (first | exact rfl | (show (_ : Int) ≤ _; omega) | (show (_ : Int) < _; omega) | assumption | exact SqL.of upd_same | exact SqT.of upd_same | exact upd_same | exact Drew.at_ (by assumption) | exact at_of (j := 0) rfl rfl | exact at_of (j := 1) rfl rfl | exact at_of (j := 2) rfl rfl | exact at_of (j := 3) rfl rfl | exact .inr (by assumption) | exact .inl (by assumption) | exact .ty _ | exact dp_ty (by assumption) | exact kit_strD _ | exact kit_tupD _ | exact kit_intD _ | exact kit_boolD _ | exact ⟨_, rfl⟩ | decide | omega | exact (show 0 ≤ sizeLine by decide) | exact (show 1 ≤ sizeLine by decide) | exact (show 2 ≤ sizeLine by decide) | exact (show 3 ≤ sizeLine by decide) | exact (show 4 ≤ sizeLine by decide) | exact (show 5 ≤ sizeLine by decide) | exact (show 6 ≤ sizeLine by decide) | decide +kernel)) | apply Exists.intro | refine iteT ?_ | refine iteF ?_)
    intro H20 d24
    exact k _ (sm_drew s1 (d23.trans d24) p0)
end
section
variable {P : Program} {w : World} {K : PySem.W.Frag} {mg : Str → Option Value} {base : Heap}
theorem ok_law (T : Tx w K mg) : PromG P w K mg base 16 "law" s_law ["_law_cells"] (spLaw K) := by
  refine PromG.of T.d_law sc_law (fun vs H Q E h => ?_) (fun _ _ _ _ _ _ us hl => match us, hl with | [_], _ => rfl) (fun f cdv A outer s H vs Q E hr hgd h => ?_)
  · obtain ⟨a, ns, rfl, _⟩ := h
    rfl
  · obtain ⟨a, ns, rfl, hS, hl, hz, k⟩ := h
    refine ⟨_, (pss_cons (ps_for PassesOwn.never (by rfl) (pi_range1 (by rfl) T.b_range (pa_cons (pe_callB (call_max2 rfl) (by rfl) T.b_max (by decide +kernel) (pa_cons pe_int (pa_cons (pe_callB (call_min2 rfl) (by rfl) T.b_min (by decide +kernel) (pa_cons (pe_callB call_len_seq (by rfl) T.b_len (by decide +kernel) (pa_cons (pv 0) pa_nil)) (pa_cons pe_int pa_nil))) pa_nil))) pa_nil)) (pg_name (i := 1) sc_law.nd rfl (Or.inl rfl)) (pss_one (ps_if (pt_not (pt_val (pe_callG (ok_L_right T) hgd (hr.mono (by decide)) (by rfl) (pa_cons (pe_callP (ok_L_cell T) (hr.mono (by decide)) (by rfl) pass0 (pa_cons (pv 0) (pa_cons (pv 1) pa_nil))) pa_nil)))) (pss_one (ps_ret pe_bl)) pss_nil)))
      (pss_cons (ps_set (i := 2) sc_law.nd rfl (Or.inr rfl) (pe_callP (ok_L_pool T) (hr.mono (by decide)) (by rfl) pass0 (pa_cons (pe_callP (ok_L_cell T) (hr.mono (by decide)) (by rfl) pass0 (pa_cons (pv 0) (pa_cons pe_int pa_nil))) pa_nil)))
      (pss_one (ps_ret (pe_callB (cr_all rfl) (by rfl) T.b_all (by decide +kernel) (pa_cons (pe_lc (own := [("_law_turn", 3)]) (g := (gName 3)) (tt := tYes) (by rfl) sc_law.nd (pi_range1 (by rfl) T.b_range (pa_cons pe_int pa_nil)) (blkOk_by (own := [("_law_turn", 3)]) (N := ["_law_cells", "_law_k", "_law_pool_here", "_law_turn"]) (sc := defScope s_law) (by decide +kernel)) (fun _ _ _ _ _ => (pg_name (i := 3) sc_law.nd rfl (Or.inl rfl))) (fun _ _ _ _ _ => pts_nil) (fun _ _ _ _ _ => (pe_callG (ok_L_plain_right T) hgd (hr.mono (by decide)) (by rfl) (pa_cons (pv 2) (pa_cons (pe_callP (ok_L_radix T) (hr.mono (by decide)) (by rfl) pass0 (pa_cons (pv 2) pa_nil)) pa_nil))))) pa_nil)))))), ?_⟩
    refine ⟨_, rfl, _, _, rfl, .inl hS, _, _, rfl, _, _, rfl, _, rfl, ?_, ?_, for_range (lo := 0) (fun i σ H' => Same H H' ∧ ∃ v1 : Option V, σ = [some (.ref a), v1, none, none]) ⟨Same.refl H, none, rfl⟩ ?_ ?_⟩
    · split <;> split <;> omega
    · split <;> split <;> omega
    · rintro i σ G hi ⟨s1, v1, rfl⟩
      have hSG := sqL_same s1 hS
      have i0 : (0 : Int) ≤ 0 + (i : Int) := by omega
      have i1 : 0 + (i : Int) ≤ 1000 := by
        rw [List.length_map] at hi
        split at hi <;> split at hi <;> omega
      repeat (first | (refine And.intro ?_ ?_; · (first | exact rfl | (show (_ : Int) ≤ _; omega) | (show (_ : Int) < _; omega) | assumption | exact SqL.of upd_same | exact SqT.of upd_same | exact upd_same | exact Drew.at_ (by assumption) | exact at_of (j := 0) rfl rfl | exact at_of (j := 1) rfl rfl | exact at_of (j := 2) rfl rfl | exact at_of (j := 3) rfl rfl | exact .inr (by assumption) | exact .inl (by assumption) | exact .ty _ | exact dp_ty (by assumption) | exact kit_strD _ | exact kit_tupD _ | exact kit_intD _ | exact kit_boolD _ | exact ⟨_, rfl⟩ | decide | omega | exact (show 0 ≤ sizeLine by decide) | exact (show 1 ≤ sizeLine by decide) | exact (show 2 ≤ sizeLine by decide) | exact (show 3 ≤ sizeLine by decide) | exact (show 4 ≤ sizeLine by decide) | exact (show 5 ≤ sizeLine by decide) | exact (show 6 ≤ sizeLine by decide) | decide +kernel)) | apply Exists.intro | refine iteT ?_ | refine iteF ?_)
      intro z
      repeat (first | (refine And.intro ?_ ?_; · (first | exact rfl | (show (_ : Int) ≤ _; omega) | (show (_ : Int) < _; omega) | assumption | exact SqL.of upd_same | exact SqT.of upd_same | exact upd_same | exact Drew.at_ (by assumption) | exact at_of (j := 0) rfl rfl | exact at_of (j := 1) rfl rfl | exact at_of (j := 2) rfl rfl | exact at_of (j := 3) rfl rfl | exact .inr (by assumption) | exact .inl (by assumption) | exact .ty _ | exact dp_ty (by assumption) | exact kit_strD _ | exact kit_tupD _ | exact kit_intD _ | exact kit_boolD _ | exact ⟨_, rfl⟩ | decide | omega | exact (show 0 ≤ sizeLine by decide) | exact (show 1 ≤ sizeLine by decide) | exact (show 2 ≤ sizeLine by decide) | exact (show 3 ≤ sizeLine by decide) | exact (show 4 ≤ sizeLine by decide) | exact (show 5 ≤ sizeLine by decide) | exact (show 6 ≤ sizeLine by decide) | decide +kernel)) | apply Exists.intro | refine iteT ?_ | refine iteF ?_)
      intro H2 s2
      repeat (first | (refine And.intro ?_ ?_; · (first | exact rfl | (show (_ : Int) ≤ _; omega) | (show (_ : Int) < _; omega) | assumption | exact SqL.of upd_same | exact SqT.of upd_same | exact upd_same | exact Drew.at_ (by assumption) | exact at_of (j := 0) rfl rfl | exact at_of (j := 1) rfl rfl | exact at_of (j := 2) rfl rfl | exact at_of (j := 3) rfl rfl | exact .inr (by assumption) | exact .inl (by assumption) | exact .ty _ | exact dp_ty (by assumption) | exact kit_strD _ | exact kit_tupD _ | exact kit_intD _ | exact kit_boolD _ | exact ⟨_, rfl⟩ | decide | omega | exact (show 0 ≤ sizeLine by decide) | exact (show 1 ≤ sizeLine by decide) | exact (show 2 ≤ sizeLine by decide) | exact (show 3 ≤ sizeLine by decide) | exact (show 4 ≤ sizeLine by decide) | exact (show 5 ≤ sizeLine by decide) | exact (show 6 ≤ sizeLine by decide) | decide +kernel)) | apply Exists.intro | refine iteT ?_ | refine iteF ?_)
      exact ⟨fun x o e => s2 _ _ (s1 _ _ e), _, rfl⟩
    · rintro σ G ⟨s1, v1, rfl⟩
      have hSG := sqL_same s1 hS
      have i0 : (0 : Int) ≤ 0 := Int.le_refl 0
      have i1 : (0 : Int) ≤ 1000 := by decide
      repeat (first | (refine And.intro ?_ ?_; · (first | exact rfl | (show (_ : Int) ≤ _; omega) | (show (_ : Int) < _; omega) | assumption | exact SqL.of upd_same | exact SqT.of upd_same | exact upd_same | exact Drew.at_ (by assumption) | exact at_of (j := 0) rfl rfl | exact at_of (j := 1) rfl rfl | exact at_of (j := 2) rfl rfl | exact at_of (j := 3) rfl rfl | exact .inr (by assumption) | exact .inl (by assumption) | exact .ty _ | exact dp_ty (by assumption) | exact kit_strD _ | exact kit_tupD _ | exact kit_intD _ | exact kit_boolD _ | exact ⟨_, rfl⟩ | decide | omega | exact (show 0 ≤ sizeLine by decide) | exact (show 1 ≤ sizeLine by decide) | exact (show 2 ≤ sizeLine by decide) | exact (show 3 ≤ sizeLine by decide) | exact (show 4 ≤ sizeLine by decide) | exact (show 5 ≤ sizeLine by decide) | exact (show 6 ≤ sizeLine by decide) | decide +kernel)) | apply Exists.intro | refine iteT ?_ | refine iteF ?_)
      intro z
      repeat (first | (refine And.intro ?_ ?_; · (first | exact rfl | (show (_ : Int) ≤ _; omega) | (show (_ : Int) < _; omega) | assumption | exact SqL.of upd_same | exact SqT.of upd_same | exact upd_same | exact Drew.at_ (by assumption) | exact at_of (j := 0) rfl rfl | exact at_of (j := 1) rfl rfl | exact at_of (j := 2) rfl rfl | exact at_of (j := 3) rfl rfl | exact .inr (by assumption) | exact .inl (by assumption) | exact .ty _ | exact dp_ty (by assumption) | exact kit_strD _ | exact kit_tupD _ | exact kit_intD _ | exact kit_boolD _ | exact ⟨_, rfl⟩ | decide | omega | exact (show 0 ≤ sizeLine by decide) | exact (show 1 ≤ sizeLine by decide) | exact (show 2 ≤ sizeLine by decide) | exact (show 3 ≤ sizeLine by decide) | exact (show 4 ≤ sizeLine by decide) | exact (show 5 ≤ sizeLine by decide) | exact (show 6 ≤ sizeLine by decide) | decide +kernel)) | apply Exists.intro | refine iteT ?_ | refine iteF ?_)
      intro p H2 p0 s2 hp
      refine gn ?_
      repeat (first | (refine And.intro ?_ ?_; · (first | exact rfl | (show (_ : Int) ≤ _; omega) | (show (_ : Int) < _; omega) | assumption | exact SqL.of upd_same | exact SqT.of upd_same | exact upd_same | exact Drew.at_ (by assumption) | exact at_of (j := 0) rfl rfl | exact at_of (j := 1) rfl rfl | exact at_of (j := 2) rfl rfl | exact at_of (j := 3) rfl rfl | exact .inr (by assumption) | exact .inl (by assumption) | exact .ty _ | exact dp_ty (by assumption) | exact kit_strD _ | exact kit_tupD _ | exact kit_intD _ | exact kit_boolD _ | exact ⟨_, rfl⟩ | decide | omega | exact (show 0 ≤ sizeLine by decide) | exact (show 1 ≤ sizeLine by decide) | exact (show 2 ≤ sizeLine by decide) | exact (show 3 ≤ sizeLine by decide) | exact (show 4 ≤ sizeLine by decide) | exact (show 5 ≤ sizeLine by decide) | exact (show 6 ≤ sizeLine by decide) | decide +kernel)) | apply Exists.intro | refine iteT ?_ | refine iteF ?_)
      intro D hD
      have Dp0 : D ≠ p := PurseAt.ne hp hD
      have e : ∀ n : Nat, (List.replicate n true).all id = true := fun n => by simp
      refine lc_range (lo := 0) (Pv := fun i H' => Drew p H2 H' ∧ H' D = some (.lst (List.replicate i (.bl true)))) ⟨(Drew.refl hp).new hD, upd_same⟩ ?_ ?_
      · rintro i H' hi ⟨d, hd⟩
        have hp' := d.at_
        refine ⟨rfl, ?_⟩
        repeat (first | (refine And.intro ?_ ?_; · (first | exact rfl | (show (_ : Int) ≤ _; omega) | (show (_ : Int) < _; omega) | assumption | exact SqL.of upd_same | exact SqT.of upd_same | exact upd_same | exact Drew.at_ (by assumption) | exact at_of (j := 0) rfl rfl | exact at_of (j := 1) rfl rfl | exact at_of (j := 2) rfl rfl | exact at_of (j := 3) rfl rfl | exact .inr (by assumption) | exact .inl (by assumption) | exact .ty _ | exact dp_ty (by assumption) | exact kit_strD _ | exact kit_tupD _ | exact kit_intD _ | exact kit_boolD _ | exact ⟨_, rfl⟩ | decide | omega | exact (show 0 ≤ sizeLine by decide) | exact (show 1 ≤ sizeLine by decide) | exact (show 2 ≤ sizeLine by decide) | exact (show 3 ≤ sizeLine by decide) | exact (show 4 ≤ sizeLine by decide) | exact (show 5 ≤ sizeLine by decide) | exact (show 6 ≤ sizeLine by decide) | decide +kernel)) | apply Exists.intro | refine iteT ?_ | refine iteF ?_)
        intro b H3 b0 b1 d3
        have hp3 := d3.at_
        repeat (first | (refine And.intro ?_ ?_; · (first | exact rfl | (show (_ : Int) ≤ _; omega) | (show (_ : Int) < _; omega) | assumption | exact SqL.of upd_same | exact SqT.of upd_same | exact upd_same | exact Drew.at_ (by assumption) | exact at_of (j := 0) rfl rfl | exact at_of (j := 1) rfl rfl | exact at_of (j := 2) rfl rfl | exact at_of (j := 3) rfl rfl | exact .inr (by assumption) | exact .inl (by assumption) | exact .ty _ | exact dp_ty (by assumption) | exact kit_strD _ | exact kit_tupD _ | exact kit_intD _ | exact kit_boolD _ | exact ⟨_, rfl⟩ | decide | omega | exact (show 0 ≤ sizeLine by decide) | exact (show 1 ≤ sizeLine by decide) | exact (show 2 ≤ sizeLine by decide) | exact (show 3 ≤ sizeLine by decide) | exact (show 4 ≤ sizeLine by decide) | exact (show 5 ≤ sizeLine by decide) | exact (show 6 ≤ sizeLine by decide) | decide +kernel)) | apply Exists.intro | refine iteT ?_ | refine iteF ?_)
        intro H4 d4
        refine ⟨_, d4.kp D _ Dp0 (d3.kp D _ Dp0 hd), ?_, ((d.trans d3).trans d4).put hD Dp0, ?_⟩
        · rw [List.length_replicate]
          exact sz (by have : i < 2 := hi; omega)
        · rw [upd_same, List.replicate_succ']
      · rintro H' ⟨d, hd⟩
        refine ⟨D, List.replicate _ true, rfl, SqL.of (by rw [List.map_replicate]; exact hd), ?_⟩
        show Q (.bl ((List.replicate _ true).all id)) H'
        rw [e]
        exact k _
end
theorem facts {P : Program} {w : World} {K : PySem.W.Frag} {h : Heap} {mg : Str → Option Value} {f : Addr} (X : K.In h) (G : h.Ns mainGlobals mg) (hfa : mg ("law" : Str) = some (.ref f)) (c0 : SaysX fbL faL fnL tabL w K) :
    ∃ fd : FuncData, (∀ (s : Shared) (v : Value), BindsTo s fd ⟨[v], []⟩ [("_law_cells", v)]) ∧ ∀ base : Heap, K.In base → base.Ns mainGlobals mg → FnG P w K mg base 16 f fd ["_law_cells"] (spLaw K) := by
  have T := tx_of (w := w) X G c0
  have c : He.SaysD faL fnL K := c0.t.d
  obtain ⟨fd, F⟩ := c.def_ 52 (d := dd_law) rfl
  have hm := He.glo_ok X G (c.fact 52 (f := .glo "law") rfl)
  have e := hfa.symm.trans hm
  cases e
  have b := FunD.bindsA (ps := ["_law_cells"]) F fun _ _ _ _ _ _ us hl => match us, hl with | [_], _ => rfl
  refine ⟨fd, fun s v => b s [v] rfl, fun base _ _ => ?_⟩
  obtain ⟨f', fd', F', hm', D', _⟩ := (ok_law (P := P) (w := w) (base := base) T).ex
  cases hm.symm.trans hm'
  have efd : fd' = fd := by
    obtain ⟨_, _, _, _, _, _, _, _, _, _, _, l1, _⟩ := F.ex
    obtain ⟨_, _, _, _, _, _, _, _, _, _, _, l2, _⟩ := D'.ex
    have l2' := l2.symm.trans l1
    injection l2' with l3
    injection l3 with _ _ l4 _
    injection l4
  rw [← efd]
  exact F' 
end Sz
open PySem PySem.W PySem.Calls PyProof.Rows in
set_option maxRecDepth 100000 in
set_option maxHeartbeats 0 in
theorem PySem.Challenge.cw_sizestacks_k56_whole_payloads_and_missed_holds : PySem.Challenge.rw_sizestacks_k56_whole_payloads_and_missed.Holds := by
  w_on; o_law
  refine HandSHeadRun.head_any (r := OpenLaw.row PySem.Challenge.rw_sizestacks_k56_whole_payloads_and_missed) (q := view (OpenLaw.row PySem.Challenge.rw_sizestacks_k56_whole_payloads_and_missed).prog [83]) (H := Sz.hk) (ob := Sz.ob) (M := 30000) (loose := Sz.looseL) (d := HandSHeadRun.topDef (OpenLaw.row PySem.Challenge.rw_sizestacks_k56_whole_payloads_and_missed).prog 83) (kwd := []) Sz.ob_eq
    (by kernel_rfl) (fun z => by kernel_rfl) Sz.run (by kernel_rfl) (by kernel_rfl) (by kernel_rfl) (by rfl) (by first | assumption | decide +kernel) (by decide +kernel) ⟨rfl, rfl, rfl, rfl, rfl, by decide +kernel⟩ ?hw ?hc
  case hw => w_witness2
  case hc =>
    refine Sz.walk_ofG (l := PySem.Challenge.rw_sizestacks_k56_whole_payloads_and_missed) (n := 63) (k := 16) (x := "_law_cells") rfl (by decide) (by kernel_rfl) ⟨rfl, by decide, by decide⟩ ?F
    intro w mg fa h Y G hmg0
    obtain ⟨K, KX, c⟩ := Y
    have hmg : mg ("law" : PySem.Str) = some (.ref fa) := by
      have e : (HandSHeadRun.topDef (OpenLaw.row PySem.Challenge.rw_sizestacks_k56_whole_payloads_and_missed).prog 83).name = ("law" : PySem.Str) := by kernel_rfl
      rw [← e]
      exact hmg0
    obtain ⟨fd, hb, hF⟩ := Sz.facts (P := (PySem.Challenge.rw_sizestacks_k56_whole_payloads_and_missed).prog) (w := w) KX G hmg c
    exact ⟨K, fd, Sz.spLaw K, KX, hb, fun H a ns hl hz hS => ⟨a, ns, rfl, hS, hl, hz, fun _ => rfl⟩, hF⟩
