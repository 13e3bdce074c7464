import PyProof.Rows.All
import Wide.All
import OpenK.AllK
import Wide.FinOn
import KE.KStateDown
import HandS.ForMost
import HandS.Exc
import HandS.Wide
import HandS.WideBits
import HandS.IsInst
import HandS.Style
import HandS.RaiseMore
import HandS.Defaults
import HandS.Evl
import HandS.EndBits
import HandS.Words
import HandS.WordsExc
import HandS.Head0
import HandS.Head1
import HandS.Head2
import HandS.HeadEnd
import HandS.HeadHook1
import HandS.HeadHook2
import HandS.HeadHook3
import HandS.Star
import HandS.FStr
import HandS.Text
import HandS.Walk
import KE.GoesMore
import PyProof.LongRange
import HandS.Conv
import PyProof.StrLawsRepr
import PyProof.InstSpecial
import HandS.OwnEq
import HandS.Zip
import HandS.TupAny
import KE.KFmtOwn
import PyProof.InstNe
import PySem.Challenge.RW_sizestacks_k54_whole_bounds_and_payloads
set_option Elab.async false
set_option linter.all false
set_option maxRecDepth 100000
set_option maxHeartbeats 4000000
set_option exponentiation.threshold 20000
/-! Own base: a def by its promise, a few rules more. -/
namespace Sz
open PySem PySem.Spec PyProof.Rows L2

/-- a def of the text, by its name -/
def DefAt (K : PySem.W.Frag) (mg : Str → Option Value) (x : Str) (st : Stmt) : Prop :=
  ∃ f fd, FunD K x x (defArgs st) (defBody st) (defScope st) [] [] f fd ∧ mg x = some (.ref f)

/-- the def named x keeps the promise sp -/
structure Prom (P : Program) (w : World) (K : PySem.W.Frag) (mg : Str → Option Value) (base : Heap) (CX : CXT) (k : Nat) (x : Str) (st : Stmt) (ps : List Str) (sp : Sp) : Prop where
  ex : ∃ f fd, FnOk P w K mg base CX k f fd ps sp ∧ mg x = some (.ref f) ∧ FunD K x x (defArgs st) (defBody st) (defScope st) [] [] f fd ∧ Binds K fd ps []

section
variable {P : Program} {w : World} {K : PySem.W.Frag} {mg : Str → Option Value} {base : Heap}
theorem Prom.of {x : Str} {st : Stmt} {ps N : List Str} {sp : Sp} {k : Nat} (D : DefAt K mg x st) (S : FnScope N ps (defScope st)) (len : ∀ vs H Q E, sp vs H Q E → vs.length = ps.length)
    (hb : ∀ (kV doc pm : Value) (an : Option Addr) (cdv ct : Value) (us : List Value), us.length = ps.length → bindArgs (PySem.W.fnOf x x (defArgs st) (defBody st) (defScope st) .none kV doc pm an cdv ct) ⟨us, []⟩ = pure (ps.zip us))
    (hbody : ∀ (f : Addr) (cdv : Value) (A : Around) (outer : List Env) (s : Shared) (H : Hp) (vs : List V) (Q : VK) (E : XK), Room k (A.deeper (envOfC x (defScope st) s.heap.objs.size f cdv)) → sp vs H Q E →
      ∃ t, PSs (cxOf CX0 P w K mg base N x (defScope st) f cdv A outer s H E).nox (defBody st) t ∧ t { nx := fun _ H' => Q .non H', rt := Q } (start N vs) H) :
    Prom P w K mg base CX0 (k + 1) x st ps sp := by
  obtain ⟨f, fd, F, hm⟩ := D
  refine ⟨f, fd, F.ok S len (fun cdv A outer s H vs Q E hr hs => ?_), hm, F, F.bindsN hb⟩
  obtain ⟨t, h1, h2⟩ := hbody f cdv A outer s H vs Q E hr hs
  exact ⟨t, h1.nox, h2⟩
end

section
variable {X : Cx} {CX : CXT} {k : Nat} {x : Str} {st : Stmt} {ps : List Str} {sp : Sp} {E : XK} {e : Expr} {es : List Expr} {t tk : TA} {p pos : Pos} {kws : List Keyword} {ks : List Str}
theorem pe_callP (G : Prom X.prog X.w X.K X.mg X.base CX k x st ps sp) (hr : Room k X.A) (hg : Gl X x) (hx : Passes CX X E) (ha : PA X (e :: es) t)
    (hdb : (x == ("__debug__" : Str)) = false := by decide) (he : starEach (e :: es) X.env = (false, eval e X.env) :: starEach es X.env := by rfl) (hpl : (backTo pos (starEach es X.env)).any (·.1) = false := by rfl) :
    PE X (.Call (.Name x p) (e :: es) [] pos) (tCall sp [] E t) := by
  obtain ⟨f, fd, F, hm, D, hb⟩ := G.ex
  exact pe_call F hr hg hm D.kp hb .nil hx ha hdb he hpl
/-- f(k = v, ..), keywords alone -/
theorem pe_callKP {g : List Value → List Value → List Value} {gV : List V → List V → List V} (G : Prom X.prog X.w X.K X.mg X.base CX k x st ps sp) (hr : Room k X.A) (hg : Gl X x) 
    (hb : ∀ fd f, FunD X.K x x (defArgs st) (defBody st) (defScope st) [] [] f fd → KBinds X.K fd ps ks g gV) (hx : Passes CX X E)
    (hkw : PK X kws tk) (hall : (backToKw pos (keywordEach kws X.env)).all (·.1.isSome) = true := by rfl) (hks : (backToKw pos (keywordEach kws X.env)).filterMap (·.1) = ks := by rfl)
    (hdb : (x == ("__debug__" : Str)) = false := by decide)
    (hpl : ((backTo pos (starEach [] X.env)).any (·.1) || (backToKw pos (keywordEach kws X.env)).any (·.1.isNone)) = false := by rfl) :
    PE X (.Call (.Name x p) [] kws pos) (tCallK sp gV E tNil tk) := by
  obtain ⟨f, fd, F, hm, D, _⟩ := G.ex
  have hb := hb fd f D
  refine ⟨fun pins s σ H Q I h => ?_⟩
  refine wpAny_Call_Name_kw (ld_glob I hg hm ?_ hdb)
  refine PySem.W.callWith_KW0 (h₀ := X.base) I.ok.mod.kin D.kp hall (thn (hkw.run pos pins s σ H _ I h) fun ws s2 z => ?_) hpl
  obtain ⟨zs, H2, I2, rz, q2⟩ := z
  refine ⟨I2.kIn, ?_⟩
  rw [hks]
  exact run_fnk F hr hb hx I2 .nil rz q2
/-- the keywords' values put in the parameters' order -/
def perm {α : Type} (ix : List Nat) (us ws : List α) : List α := match us with
  | [] => if ws.length = ix.length then ix.filterMap fun i => ws[i]? else []
  | _ :: _ => []
theorem perm_vals {ix : List Nat} {vs zs : List V} {us ws : List Value} (r : Vals vs us) (z : Vals zs ws) : Vals (perm ix vs zs) (perm ix us ws) := by
  cases r with
  | cons _ _ => exact .nil
  | nil =>
    show Vals (if zs.length = ix.length then _ else _) (if ws.length = ix.length then _ else _)
    rw [z.length]
    by_cases c : ws.length = ix.length
    · rw [if_pos c, if_pos c]
      clear c
      induction ix with
      | nil => exact .nil
      | cons i ix ih =>
        rw [List.filterMap_cons, List.filterMap_cons]
        cases e : zs[i]? with
        | none =>
          rw [z.none_of e]
          exact ih
        | some v =>
          obtain ⟨u, hu, rv⟩ := z.get e
          rw [hu]
          exact .cons rv ih
    · rw [if_neg c, if_neg c]
      exact .nil
theorem kb_of {K : PySem.W.Frag} (ix : List Nat) (hne : 0 < ps.length)
    (h : ∀ (kV doc pm : Value) (an : Option Addr) (cdv ct : Value) (ws : List Value), ws.length = ix.length → bindArgs (PySem.W.fnOf x x (defArgs st) (defBody st) (defScope st) .none kV doc pm an cdv ct) ⟨[], ks.zip ws⟩ = pure (ps.zip (perm ix [] ws))) :
    ∀ fd f, FunD K x x (defArgs st) (defBody st) (defScope st) [] [] f fd → KBinds K fd ps ks (perm ix) (perm ix) := fun fd f F => by
  obtain ⟨oc, od, dV, kV, doc, pm, an, cdv, ct, osl, rfl, lk, hcd, hD, hK⟩ := F.ex
  rcases hD with ⟨_, rfl⟩ | ⟨e, _⟩
  · refine ⟨fun s us ws _ hl => ?_, fun r z => perm_vals r z⟩
    cases us with
    | cons u us =>
      have e0 : (perm ix (u :: us) ws).length = 0 := rfl
      omega
    | nil =>
      by_cases c : ws.length = ix.length
      · exact .of_eq (h kV doc pm an cdv ct ws c)
      · have e0 : perm ix [] ws = [] := if_neg c
        rw [e0] at hl
        simp at hl
        omega
  · exact absurd rfl e
/-- a constant of the module -/
theorem pe_gint {v : Int} (h : ∃ u, X.mg x = some (.int v u)) (hg : Gl X x := by rfl) (hd : (x == ("__debug__" : Str)) = false := by decide) : PE X (.Name x pos) (tC (.int v)) := by
  obtain ⟨u, hm⟩ := h
  exact pe_glob hg hm ⟨_, rfl⟩ hd
theorem op_isnotBl : OpR X (compareOp .IsNot) (fun x y H Q => ∃ b : Bool, y = .bl b ∧ Q (.bl (!decide (x = .bl b))) H) := by
  intro pins s σ H x y v u Q I rx ry h
  obtain ⟨b, rfl, q⟩ := h
  cases (show u = Value.bool b from ry)
  have key : plainIs v (Value.bool b) = true ∧ (v = Value.bool b ↔ x = .bl b) := by
    cases x with
    | non => cases (show v = Value.none from rx); exact ⟨rfl, by constructor <;> intro z <;> cases z⟩
    | bl c => cases (show v = Value.bool c from rx); exact ⟨rfl, by constructor <;> intro z <;> cases z <;> rfl⟩
    | int i => obtain ⟨t, rfl⟩ := (show ∃ t, v = Value.int i t from rx); exact ⟨rfl, by constructor <;> intro z <;> cases z⟩
    | str i => obtain ⟨t, rfl⟩ := (show ∃ t, v = Value.str i t from rx); exact ⟨rfl, by constructor <;> intro z <;> cases z⟩
    | byt i => obtain ⟨t, rfl⟩ := (show ∃ t, v = Value.bytes i t from rx); exact ⟨rfl, by constructor <;> intro z <;> cases z⟩
    | flt i => obtain ⟨t, rfl⟩ := (show ∃ t, v = Value.float i t from rx); exact ⟨rfl, by constructor <;> intro z <;> cases z⟩
    | ref a => cases (show v = Value.ref a from rx); exact ⟨rfl, by constructor <;> intro z <;> cases z⟩
    | ty n => cases (show v = Value.type n from rx); exact ⟨rfl, by constructor <;> intro z <;> cases z⟩
  by_cases e : x = .bl b
  · have ev := key.2.mpr e
    subst ev
    exact wpAny_isNot_self rfl ⟨.bl false, H, I, rfl, by simpa [e] using q⟩
  · exact wpAny_isNot_other key.1 (fun z => e (key.2.mp z)) ⟨.bl true, H, I, rfl, by simpa [e] using q⟩
/-- repr of a flat value -/
def flatShown : V → Option Str
  | .non => some "None"
  | .bl b => some (if b then "True" else "False")
  | .int i => if i.natAbs.log2 < 1920 then some (toString i) else none
  | _ => none
theorem cr_repr : CallR X (.builtin "repr") (fun xs H Q => ∃ v z, xs = [v] ∧ flatShown v = some z ∧ Q (.str z) H) := by
  intro pins s σ H xs us Q I r h
  obtain ⟨v, z, rfl, hz, q⟩ := h
  obtain ⟨u, rfl, ru⟩ := vals1 r
  cases v with
  | non =>
    cases (show u = Value.none from ru)
    obtain rfl : ("None" : Str) = z := Option.some.inj hz
    exact PySem.P.repr_of_none ⟨.str _, H, I.tok _, ⟨_, rfl⟩, q⟩
  | bl b =>
    cases (show u = Value.bool b from ru)
    obtain rfl : (if b then "True" else "False" : Str) = z := Option.some.inj hz
    exact PySem.P.repr_of_bool ⟨.str _, H, I.tok _, ⟨_, rfl⟩, q⟩
  | int i =>
    obtain ⟨t, rfl⟩ := (show ∃ t, u = Value.int i t from ru)
    have hz2 : (if i.natAbs.log2 < 1920 then some (toString i : Str) else none) = some z := hz
    by_cases c : i.natAbs.log2 < 1920
    · rw [if_pos c] at hz2
      obtain rfl := Option.some.inj hz2
      exact PySem.P.repr_of_int c ⟨.str _, H, I.tok _, ⟨_, rfl⟩, q⟩
    · rw [if_neg c] at hz2
      cases hz2
  | _ => cases hz
/-- a power of any size that the model takes -/
def CPowW (i j : Int) : Prop := 1 < i ∧ 0 < j ∧ ∃ n : Nat, i.natAbs < 2 ^ n ∧ (n : Int) * j ≤ 134217728
theorem op_powW : OpR X (binaryOp .Pow) (rI CPowW fun i j => .int (i ^ j.toNat)) := opI fun i j t u s Q E hc q => by
  obtain ⟨h1, h2, n, h3, h4⟩ := hc
  have hb : ¬ Builtin.Int.intTooBig (((Builtin.Int.intBits i : Nat) : Int) * j) = true := by
    have e : bitsLine = 134217728 := by decide
    have b := PyProof.Rows.intBits_le h3
    have m : ((Builtin.Int.intBits i : Nat) : Int) * j ≤ (n : Int) * j := Int.mul_le_mul_of_nonneg_right (by omega) (by omega)
    unfold Builtin.Int.intTooBig
    rw [decide_eq_true_eq, e]
    omega
  refine PySem.AutoIntOps.pow_4 (by omega) (by simpa using (show ¬ j = 0 by omega)) (by simpa using (show ¬ i = 0 ∧ ¬ i = 1 by omega)) (by simpa using (show ¬ i = -1 by omega)) hb ?_
  exact q
/-- divmod by a positive number of at most 30 figures -/
theorem divp_small {i j : Int} (h : 0 < j) (h2 : j ≤ 1000000000000000000000000000000) : CDivP i j := by
  refine ⟨h, PyProof.noPylong_of_log2 ?_⟩
  have h3 : j.natAbs < 2 ^ 200 := Nat.lt_of_le_of_lt (show j.natAbs ≤ 1000000000000000000000000000000 by omega) (by decide)
  exact Nat.lt_of_lt_of_le (PySem.Flt.log2_lt_of (by decide) h3) (by decide)
end
/-! ### what an if's test says -/
theorem ifd {c A B : Prop} [Decidable c] (h1 : c → A) (h2 : ¬ c → B) : if decide c = true then A else B := by
  by_cases h : c
  · rw [decide_eq_true h, if_pos rfl]; exact h1 h
  · rw [decide_eq_false h, if_neg Bool.false_ne_true]; exact h2 h
theorem ifd_pos {c A B : Prop} [Decidable c] (h : c) (hA : A) : if decide c = true then A else B := by
  rw [decide_eq_true h, if_pos rfl]; exact hA
theorem ifd_neg {c A B : Prop} [Decidable c] (h : ¬ c) (hB : B) : if decide c = true then A else B := by
  rw [decide_eq_false h, if_neg Bool.false_ne_true]; exact hB
theorem ifn {c A B : Prop} [Decidable c] (h1 : ¬ c → A) (h2 : c → B) : if (!decide c) = true then A else B := by
  by_cases h : c
  · rw [decide_eq_true h]; exact h2 h
  · rw [decide_eq_false h]; exact h1 h
/-- all but p stands as it stood -/
def Kp (p : Addr) (H H' : Hp) : Prop := ∀ b o, b ≠ p → H b = some o → H' b = some o
theorem Kp.refl (p : Addr) (H : Hp) : Kp p H H := fun _ _ _ h => h
theorem Kp.trans {p : Addr} {H H1 H2 : Hp} (a : Kp p H H1) (b : Kp p H1 H2) : Kp p H H2 := fun c o n h => b c o n (a c o n h)
theorem Kp.set {p : Addr} {H H' : Hp} {o : HO} (a : Kp p H H') : Kp p H (L2.upd H' p o) := fun b u n h => by
  rw [upd_ne n]
  exact a b u n h
theorem Kp.new {p q : Addr} {H H' : Hp} {o : HO} (a : Kp p H H') (h : H' q = none) : Kp p H (upd H' q o) := fun b u n e => by
  have e2 := a b u n e
  rw [upd_ne (ne_of_none e2 h)]
  exact e2
end Sz
namespace Sz
open PySem PySem.Spec PyProof.Rows L2
/-! ### defs that show containers: nothing is being shown around their call -/
structure FnG (P : Program) (w : World) (K : PySem.W.Frag) (mg : Str → Option Value) (base : Heap) (k : Nat) (f : Addr) (fd : FuncData) (ps : List Str) (sp : Sp) : Prop where
  len : ∀ vs H Q E, sp vs H Q E → vs.length = ps.length
  run : ∀ (A : Around) (outer : List Env) (s : Shared) (H : Hp) (args : Args) (us : List Value) (vs : List V) (Q : VK) (E : XK), Room k A → A.guards = some [] → Env0 P w K mg base A outer s H →
    BindsTo s fd args (ps.zip us) → Vals vs us → sp vs H Q E → codeAny (model P w) A (.call (.ref f) args) (CR CX0 outer P w H s Q E) s
theorem FnG.of {P : Program} {w : World} {K : PySem.W.Frag} {mg : Str → Option Value} {base : Heap} {k : Nat} {f : Addr} {fd : FuncData} {ps : List Str} {sp : Sp} (F : FnOk P w K mg base CX0 k f fd ps sp) : FnG P w K mg base k f fd ps sp :=
  ⟨F.len, fun A outer s H args us vs Q E hr _ e0 hb r h => F.run A outer s H args us vs Q E hr e0 hb r h⟩
/-- from the body -/
theorem fnG_of {P : Program} {w : World} {K : PySem.W.Frag} {mg : Str → Option Value} {base : Heap} {k : Nat} {f : Addr} {x q : Str} {pr : Arguments} {bd : List Stmt} {sc : Scope} {dvs : List V} {kws : List (Str × V)} {fd : FuncData} {N ps : List Str} {sp : Sp}
    (F : FunD K x q pr bd sc dvs kws f fd) (S : FnScope N ps sc) (len : ∀ vs H Q E, sp vs H Q E → vs.length = ps.length)
    (hbody : ∀ (cdv : Value) (A : Around) (outer : List Env) (s : Shared) (H : Hp) (vs : List V) (Q : VK) (E : XK), Room k (A.deeper (envOfC q sc s.heap.objs.size f cdv)) → (A.deeper (envOfC q sc s.heap.objs.size f cdv)).guards = some [] → sp vs H Q E →
      ∃ t, PSs (cxOf CX0 P w K mg base N q sc f cdv A outer s H E).nox bd t ∧ t { nx := fun _ H' => Q .non H', rt := Q } (start N vs) H) : FnG P w K mg base (k + 1) f fd ps sp := by
  obtain ⟨c1, c2, c3, c4, c5, c6, c7, cdv, c9, c10, rfl, look, code, _, _⟩ := F.ex
  refine ⟨len, fun A outer s H args us vs Q E room gd e0 hbind rel want => ?_⟩
  have old : ∀ b o, base.get? b = some o → s.heap.get? b = some o := fun b o e => (e0.bs b o e).1
  have inK : K.In s.heap := e0.mod.kin.keeps old
  have kinds : ∀ y ∈ ps.zip us, sc.names.lookup y.1 = some .local ∨ (sc.names.lookup y.1 = some .cell ∧ ((cellsFrom (s.heap.objs.size + 1) sc.names []).lookup y.1).isSome = true) := by
    rintro ⟨n, v⟩ hy
    have hm : n ∈ ps := (List.of_mem_zip hy).1
    cases S.par n hm with
    | inl z => exact Or.inl z
    | inr z => exact Or.inr ⟨z, PySem.W.cellsFrom_some _ _ _ (.inl z)⟩
  obtain ⟨t, dt, rt⟩ := hbody cdv A outer s H vs Q E (room.deeper _) gd want
  have dt := dt.nox
  refine codeAny_call_function room.depth (inK _ _ look) rfl S.co S.gen rfl (PySem.W.codeRec_of inK code) ?_
  refine hbind _ _ _ _ (wpAny_newFunctionEnv_cells S.kind kinds ?_)
  rintro _ rfl s1 ic
  refine ⟨(e0.mod.nolimit.keeps old).keeps ic.toInCall.keep, codeAny_func ?_⟩
  refine wpAny_mono (dt.run [] s1 (start N vs) H _ (inv_start S room.hd e0 (len _ _ _ _ want) rel ic) rt) ?_ (fun _ _ z => z)
  intro fl s' hs
  cases fl with
  | ret u => exact let ⟨v, _, H', J, rv, qv⟩ := hs; ⟨v, H', J.os, J.bare, J.base, J.hok, rv, qv⟩
  | next => exact let ⟨_, H', J, qv⟩ := hs; ⟨.non, H', J.os, J.bare, J.base, J.hok, rfl, qv⟩
  | brk => exact let ⟨_, _, _, qv⟩ := hs; False.elim qv
  | cont => exact let ⟨_, _, _, qv⟩ := hs; False.elim qv
/-- the def named x keeps the promise sp where nothing is being shown -/
structure PromG (P : Program) (w : World) (K : PySem.W.Frag) (mg : Str → Option Value) (base : Heap) (k : Nat) (x : Str) (st : Stmt) (ps : List Str) (sp : Sp) : Prop where
  ex : ∃ f fd, FnG P w K mg base k f fd ps sp ∧ mg x = some (.ref f) ∧ FunD K x x (defArgs st) (defBody st) (defScope st) [] [] f fd ∧ Binds K fd ps []
section
variable {P : Program} {w : World} {K : PySem.W.Frag} {mg : Str → Option Value} {base : Heap}
theorem PromG.of {x : Str} {st : Stmt} {ps N : List Str} {sp : Sp} {k : Nat} (D : DefAt K mg x st) (S : FnScope N ps (defScope st)) (len : ∀ vs H Q E, sp vs H Q E → vs.length = ps.length)
    (hb : ∀ (kV doc pm : Value) (an : Option Addr) (cdv ct : Value) (us : List Value), us.length = ps.length → bindArgs (PySem.W.fnOf x x (defArgs st) (defBody st) (defScope st) .none kV doc pm an cdv ct) ⟨us, []⟩ = pure (ps.zip us))
    (hbody : ∀ (f : Addr) (cdv : Value) (A : Around) (outer : List Env) (s : Shared) (H : Hp) (vs : List V) (Q : VK) (E : XK), Room k (A.deeper (envOfC x (defScope st) s.heap.objs.size f cdv)) → (A.deeper (envOfC x (defScope st) s.heap.objs.size f cdv)).guards = some [] → sp vs H Q E →
      ∃ t, PSs (cxOf CX0 P w K mg base N x (defScope st) f cdv A outer s H E).nox (defBody st) t ∧ t { nx := fun _ H' => Q .non H', rt := Q } (start N vs) H) :
    PromG P w K mg base (k + 1) x st ps sp := by
  obtain ⟨f, fd, F, hm⟩ := D
  exact ⟨f, fd, fnG_of F S len (fun cdv A outer s H vs Q E hr hg hs => hbody f cdv A outer s H vs Q E hr hg hs), hm, F, F.bindsN hb⟩
theorem Prom.g {x : Str} {st : Stmt} {ps : List Str} {sp : Sp} {k : Nat} (G : Prom P w K mg base CX0 k x st ps sp) : PromG P w K mg base k x st ps sp := by
  obtain ⟨f, fd, F, r⟩ := G.ex
  exact ⟨f, fd, FnG.of F, r⟩
end
section
variable {X : Cx} {k : Nat} {x : Str} {st : Stmt} {ps : List Str} {sp : Sp} {e : Expr} {es : List Expr} {t : TA} {p pos : Pos}
/-- f(..) of such a def -/
theorem pe_callG (G : PromG X.prog X.w X.K X.mg X.base k x st ps sp) (gd : X.A.guards = some []) (hr : Room k X.A) (hg : Gl X x) (ha : PA X (e :: es) t)
    (hdb : (x == ("__debug__" : Str)) = false := by decide) (he : starEach (e :: es) X.env = (false, eval e X.env) :: starEach es X.env := by rfl) (hpl : (backTo pos (starEach es X.env)).any (·.1) = false := by rfl) :
    PE X (.Call (.Name x p) (e :: es) [] pos) (tCall sp [] E0 t) := by
  obtain ⟨f, fd, F, hm, D, hb⟩ := G.ex
  constructor
  intro pins s σ H Q I h
  refine wpAny_Call_Name_kw (ld_glob I hg hm (PySem.W.callWith_K (h₀ := X.base) I.ok.mod.kin D.kp (thn (ha.run pos pins s σ H _ I h) ?_) he hpl) hdb)
  rintro us s1 ⟨vs, H1, I1, rel, want⟩
  refine ⟨I1.kIn, wpAny_call (codeAny_mono (F.run X.A X.stack s1 H1 ⟨us, []⟩ (us ++ []) (vs ++ []) Q E0 hr gd I1.env0 (hb s1 us I1.kIn ?_) (rel.append .nil) want) ?_)⟩
  · rw [← (rel.append Paired.nil).length]
    exact F.len _ _ _ _ want
  · intro r s' hq
    cases r with
    | error z => exact False.elim hq
    | ok fl =>
      cases fl with
      | ret u => exact I1.after hq
      | next => exact False.elim hq
      | brk => exact False.elim hq
      | cont => exact False.elim hq
/-- repr of data at any depth -/
theorem cr_reprD (gd : X.A.guards = some []) (hu : X.A.units + 64 < cLine) : CallR X (.builtin "repr") (fun xs H Q => ∃ (a : Addr) (d : PyData), xs = [.ref a] ∧ Dp X.K H (.ref a) d ∧ d.showable = true ∧ d.hasDict = false ∧ d.depth ≤ 40 ∧ d.shown.length ≤ sizeLine ∧ Q (.str d.shown) H) := by
  intro pins s σ H xs us Q I r h
  obtain ⟨a, d, rfl, hd, h1, h2, h3, h4, q⟩ := h
  obtain ⟨u, rfl, ru⟩ := vals1 r
  obtain ⟨as, rd⟩ := Dp.reads I d _ u hd ru
  cases (show u = Value.ref a from ru)
  refine repr_of_reads' rd h1 (PyData.noDict_hsm h2) gd (by omega) (fun _ _ z => z) (fun h' tok tk kept => ?_) h4
  exact ⟨.str d.shown, H, I.kept (t' := tk) kept, ⟨_, rfl⟩, q⟩
end
/-! ### the law's call -/
section
variable {P : Program} {w : World} {K : PySem.W.Frag} {mg mb : Str → Option Value} {k : Nat} {fa a : Addr} {fd : FuncData} {x : Str} {sp : Sp} {st : Shared} {vs : List Value} {ns : List Int}
/-- the script as the law finds it -/
def scriptHp (K : PySem.W.Frag) (a : Addr) (vs : List Value) (ns : List Int) : Hp := fun b => if b = a ∧ K.lookup a = none then some (.frz { cls := .type "list", data := .seq vs.toArray } (.lst (ns.map V.int))) else none
theorem scriptHp_some {b : Addr} {u : HO} (h : scriptHp K a vs ns b = some u) : b = a ∧ K.lookup a = none ∧ u = .frz { cls := .type "list", data := .seq vs.toArray } (.lst (ns.map V.int)) := by
  unfold scriptHp at h
  by_cases c : b = a ∧ K.lookup a = none
  · rw [if_pos c] at h
    exact ⟨c.1, c.2, (Option.some.inj h).symm⟩
  · rw [if_neg c] at h
    cases h
theorem scriptHp_none {b : Addr} (h : b ≠ a) : scriptHp K a vs ns b = none := if_neg fun z => h z.1
theorem law_callG (KX : K.In st.heap) (gl : st.heap.Ns mainGlobals mg) (bl : st.heap.Ns builtinsNs mb) (bb : ∀ y : Str, y ≠ "__name__" → mb y = bootBuiltins y) (nl : st.heap.NoLimit) (gn : st.gens = #[])
    (ha : st.heap.get? a = some { cls := .type "list", data := .seq vs.toArray }) (hi : IntsAre vs ns) (hl : ns.length ≤ sizeLine) (room : Room k callerA)
    (F : ∀ base : Heap, K.In base → base.Ns mainGlobals mg → FnG P w K mg base k fa fd [x] sp) (bind1 : ∀ (s : Shared) (u : Value), BindsTo s fd ⟨[u], []⟩ [(x, u)])
    (want : ∀ H : Hp, SqL K H a (ns.map V.int) → sp [.ref a] H (fun v _ => v = .bl true) fun _ _ _ => False) :
    codeAny (model P w) callerA (.call (.ref fa) ⟨[.ref a], []⟩) (fun r s' => r = .ok (.ret (.bool true)) ∧ OldK st.heap s'.heap ∧ s'.os = st.os ∧ AllBare s'.gens) st := by
  have rel : Vals (ns.map V.int) vs := vals_ints hi
  have len : (ns.map V.int).length ≤ sizeLine := by rw [List.length_map]; exact hl
  generalize hH : scriptHp K a vs ns = H
  have sm : ∀ {b u}, H b = some u → b = a ∧ K.lookup a = none ∧ u = .frz { cls := .type "list", data := .seq vs.toArray } (.lst (ns.map V.int)) := fun {b u} e => by
    rw [← hH] at e
    exact scriptHp_some e
  have ok : HOk P w H st.heap := fun b u e => by
    obtain ⟨rfl, _, rfl⟩ := sm e
    exact ⟨ha, len, vs, _, rel, ha⟩
  have sq : SqL K H a (ns.map V.int) := by
    cases lk : K.lookup a with
    | none => exact Or.inl (Or.inr ⟨_, by rw [← hH]; exact if_pos ⟨rfl, lk⟩⟩)
    | some o =>
      have e := (KX a o lk).symm.trans ha
      cases e
      exact Or.inr ⟨_, vs.toArray, _, lk, rfl, rfl, rfl, by rw [List.size_toArray, ← rel.length]; exact len, by simpa using rel⟩
  have hid : ∀ {b o}, st.heap.get? b = some o → H b = none → (hidT st.heap H).get? b = some o := fun e n => hidT_get e n
  have free : ∀ {b : Addr} {m}, st.heap.Ns b m → H b = none := fun {b m} hn => by
    cases e : H b with
    | none => rfl
    | some u =>
      obtain ⟨rfl, _, _⟩ := sm e
      obtain ⟨o, es, ep, e1, e2, _⟩ := hn
      have z := ha.symm.trans e1
      cases z
      cases e2
  have ns1 : ∀ {b : Addr} {m}, st.heap.Ns b m → (hidT st.heap H).Ns b m := fun {b m} hn => by
    have fr := free hn
    obtain ⟨o, es, ep, e1, e2⟩ := hn
    exact ⟨o, es, ep, hid e1 fr, e2⟩
  have inB : K.In (hidT st.heap H) := fun b o e => hid (KX b o e) (by
    cases z : H b with
    | none => rfl
    | some u =>
      obtain ⟨rfl, z2, _⟩ := sm z
      rw [z2] at e
      cases e)
  have md : Mod K mg (hidT st.heap H) := ⟨inB, ns1 gl, ⟨mb, ns1 bl, bb⟩, let ⟨mc, c1, c2⟩ := nl; ⟨mc, ns1 c1, c2⟩⟩
  have env : Env0 P w K mg (hidT st.heap H) callerA [] st H := ⟨rfl, md, fun _ _ e => of_hidT e, Nat.le_of_eq (hidT_size _ _), trivial, fun b z => absurd (show b ∈ ([] : List Addr) from z) (by simp), ok, .of_eq gn⟩
  refine codeAny_mono ((F _ inB (ns1 gl)).run callerA [] st H ⟨[.ref a], []⟩ [.ref a] [.ref a] _ _ room rfl env (bind1 st (.ref a)) (.cons rfl .nil) (want H sq)) fun r s' h => ?_
  cases r with
  | error z => exact False.elim h
  | ok fl =>
    cases fl with
    | next => exact False.elim h
    | brk => exact False.elim h
    | cont => exact False.elim h
    | ret u =>
      obtain ⟨v, H', os, bare, un, ok', ru, qv⟩ := h
      cases (show v = .bl true from qv)
      cases (show u = Value.bool true from ru)
      refine ⟨rfl, OldK.of_keep ?_, os, bare⟩
      intro b o e
      cases z : H b with
      | none => exact un.keep b o e z (by intro y; exact absurd (show b ∈ ([] : List Addr) from y) (by simp)) (by simp)
      | some t =>
        obtain ⟨rfl, _, rfl⟩ := sm z
        have e2 := (ok' _ _ (un.frzs _ _ _ z)).1
        have e3 := ha.symm.trans e
        cases e3
        exact e2
end
/-- a law whose def is a PromG -/
theorem walk_ofG {l : PySem.W.OpenLaw} {n k : Nat} {q : Program} {loose : List Str} {XP : (Str → Option Value) → Heap → Prop} {YP : World → Heap → Prop} {d : DefRec} {x : Str}
    (hn : l.most = some n) (hn2 : n ≤ sizeLine) (hdf : d.params.defaults = []) (room : Room k callerA)
    (F : ∀ (w : World) (mg : Str → Option Value) (fa : Addr) (h : Heap), YP w h → h.Ns mainGlobals mg → mg d.name = some (.ref fa) →
      ∃ (K : PySem.W.Frag) (fd : FuncData) (sp : Sp), K.In h ∧ (∀ (s : Shared) (u : Value), BindsTo s fd ⟨[u], []⟩ [(x, u)]) ∧
        (∀ (H : Hp) (a : Addr) (ns : List Int), ns.length ≤ n → (∀ z ∈ ns, Builtin.Int.intBits z ≤ 1048576) → SqL K H a (ns.map V.int) → sp [.ref a] H (fun v _ => v = .bl true) fun _ _ _ => False) ∧
        ∀ base : Heap, K.In base → base.Ns mainGlobals mg → FnG l.prog w K mg base k fa fd [x] sp) :
    PySem.W.WalkO q loose XP YP l.row.toRowW d [] (fun f vs => PySem.call f vs) := by
  refine Att.attach_callB hn hdf fun w sA sB mg mb fa o pm cd doc a vs ns G Y ho hd hcd hmg hobj hints hlen hbits hg => ?_
  obtain ⟨K, fd, sp, KX, b1, want, hF⟩ := F w mg fa _ Y G.T.g hmg
  exact law_callG KX G.T.g G.T.b G.T.builtins G.T.nolimit hg hobj hints (Nat.le_trans hlen hn2) room hF b1 (fun H hS => want H a ns hlen hbits hS)
end Sz
namespace Sz
/-! ### powers -/
theorem pow_pos {b : Int} (hb : 1 ≤ b) : ∀ j : Nat, 1 ≤ b ^ j
  | 0 => by rw [Int.pow_zero]; exact Int.le_refl 1
  | j + 1 => by
    rw [Int.pow_succ]
    have ih := pow_pos hb j
    have h := Int.mul_le_mul ih hb (by omega) (by omega)
    omega
theorem pow_one (b : Int) : b ^ (0 + 1) = b := by rw [Int.pow_succ, Int.pow_zero, Int.one_mul]
theorem pow_step {b : Int} (hb : 1 ≤ b) (j : Nat) : b ^ j ≤ b ^ (j + 1) := by
  rw [Int.pow_succ]
  have h := Int.mul_le_mul_of_nonneg_left hb (show 0 ≤ b ^ j by have := pow_pos hb j; omega)
  omega
theorem pow_mono {b : Int} (hb : 1 ≤ b) {i : Nat} : ∀ {j : Nat}, i ≤ j → b ^ i ≤ b ^ j
  | 0, h => by
    have e : i = 0 := by omega
    rw [e]
    exact Int.le_refl _
  | j + 1, h => by
    by_cases e : i = j + 1
    · rw [e]
      exact Int.le_refl _
    · exact Int.le_trans (pow_mono hb (j := j) (by omega)) (pow_step hb j)
theorem pow_lt {b : Int} (hb : 2 ≤ b) (j : Nat) : b ^ j < b ^ (j + 1) := by
  rw [Int.pow_succ]
  have h1 := pow_pos (show 1 ≤ b by omega) j
  have h := Int.mul_le_mul_of_nonneg_left hb (show 0 ≤ b ^ j by omega)
  omega
/-- an integer is below the power with its own number -/
theorem lt_pow {b : Int} (hb : 2 ≤ b) : ∀ j : Nat, (j : Int) < b ^ j
  | 0 => by rw [Int.pow_zero]; decide
  | j + 1 => by
    have h1 := lt_pow hb j
    have h2 := pow_lt hb j
    omega
/-! ### figures -/
/-- k is the number of figures of n in the base b -/
def IsF (b n k : Int) : Prop := ∃ j : Nat, k = (j : Int) + 1 ∧ n < b ^ (j + 1) ∧ (j = 0 ∨ b ^ j ≤ n)
theorem isF_le {b n m k l : Int} (hb : 2 ≤ b) (h : n ≤ m) (hk : IsF b n k) (hl : IsF b m l) : k ≤ l := by
  obtain ⟨i, rfl, h1, h2⟩ := hk
  obtain ⟨j, rfl, h3, h4⟩ := hl
  by_cases c : i ≤ j
  · omega
  · rcases h2 with h2 | h2
    · omega
    · have h5 := pow_mono (show 1 ≤ b by omega) (show j + 1 ≤ i by omega)
      omega
theorem isF_eq {b n k l : Int} (hb : 2 ≤ b) (hk : IsF b n k) (hl : IsF b n l) : k = l :=
  Int.le_antisymm (isF_le hb (Int.le_refl n) hk hl) (isF_le hb (Int.le_refl n) hl hk)
theorem isF_pos {b n k : Int} (h : IsF b n k) : 1 ≤ k := by
  obtain ⟨j, rfl, _⟩ := h
  omega
/-- there is such a number -/
theorem isF_ex {b : Int} (hb : 2 ≤ b) (n : Int) : ∃ k, IsF b n k := by
  have key : ∀ m : Nat, ∀ n : Int, n < b ^ (m + 1) → ∃ k, IsF b n k := by
    intro m
    induction m with
    | zero => exact fun n h => ⟨1, 0, rfl, h, .inl rfl⟩
    | succ m ih =>
      intro n h
      by_cases c : n < b ^ (m + 1)
      · exact ih n c
      · exact ⟨(m + 1 : Nat) + 1, m + 1, rfl, h, .inr (by omega)⟩
  refine key n.toNat n ?_
  have h1 := lt_pow hb (n.toNat + 1)
  omega
/-- a bound for the figures -/
theorem isF_bound {b n k : Int} (hb : 2 ≤ b) (m : Nat) (hn : n < 2 ^ m) (h : IsF b n k) : k ≤ (m : Int) + 1 := by
  obtain ⟨j, rfl, h1, h2⟩ := h
  rcases h2 with h2 | h2
  · omega
  · by_cases c : j ≤ m
    · omega
    · exfalso
      have h3 : (2 : Int) ^ j ≤ b ^ j := by
        clear h1 h2 c
        induction j with
        | zero => rw [Int.pow_zero, Int.pow_zero]; exact Int.le_refl 1
        | succ j ih =>
          rw [Int.pow_succ, Int.pow_succ]
          exact Int.mul_le_mul ih hb (by decide) (by have := pow_pos (show 1 ≤ b by omega) j; omega)
      have h4 := pow_mono (show (1 : Int) ≤ 2 by decide) (show m ≤ j by omega)
      omega
end Sz
namespace Sz
/-! ### totals that count their own figures -/
theorem isF_upper {b x g : Int} (hb : 2 ≤ b) {m : Nat} (h : x < b ^ (m + 1)) (hg : IsF b x g) : g ≤ (m : Int) + 1 := by
  obtain ⟨i, rfl, h1, h2⟩ := hg
  by_cases c : i ≤ m
  · omega
  · rcases h2 with h2 | h2
    · omega
    · have := pow_mono (show 1 ≤ b by omega) (show m + 1 ≤ i by omega)
      omega
/-- adding its figures to a number makes one figure more at most -/
theorem fig_grow {b n f g : Int} (hb : 2 ≤ b) (hn : 0 ≤ n) (hf : IsF b n f) (hg : IsF b (n + f) g) : g = f ∨ g = f + 1 := by
  have h1 := isF_le hb (show n ≤ n + f by have := isF_pos hf; omega) hf hg
  obtain ⟨j, rfl, h2, h3⟩ := hf
  have h4 := lt_pow hb (j + 1)
  have h5 : b ^ (j + 1 + 1) = b ^ (j + 1) * b := Int.pow_succ b (j + 1)
  have h6 := Int.mul_le_mul_of_nonneg_left hb (show 0 ≤ b ^ (j + 1) by omega)
  have h7 := isF_upper (m := j + 1) hb (show n + ((j : Int) + 1) < b ^ (j + 1 + 1) by omega) hg
  omega
/-- and then this is the number of figures -/
theorem fig_next {b n f : Int} (hb : 2 ≤ b) (hn : 0 ≤ n) (hf : IsF b n f) (hg : IsF b (n + f) (f + 1)) : IsF b (n + f + 1) (f + 1) := by
  obtain ⟨j, rfl, h2, h3⟩ := hf
  obtain ⟨i, e, h4, h5⟩ := hg
  have e2 : i = j + 1 := by omega
  subst e2
  have h6 := lt_pow hb (j + 1)
  have h7 : b ^ (j + 1 + 1) = b ^ (j + 1) * b := Int.pow_succ b (j + 1)
  have h8 := Int.mul_le_mul_of_nonneg_left hb (show 0 ≤ b ^ (j + 1) by omega)
  refine ⟨j + 1, by omega, by omega, Or.inr ?_⟩
  rcases h5 with h5 | h5
  · omega
  · omega
/-- s is a total of N -/
def Tot (b N s : Int) : Prop := IsF b s (s - N)
structure IsTot (b N s : Int) : Prop where
  tot : Tot b N s
  least : ∀ t, Tot b N t → s ≤ t
theorem isTot_pos {b N s : Int} (h : Tot b N s) : N + 1 ≤ s := by
  have := isF_pos h
  omega
theorem isTot_first {b n f : Int} (hb : 2 ≤ b) (hf : IsF b n f) (hg : IsF b (n + f) f) : IsTot b n (n + f) := by
  refine ⟨?_, fun t ht => ?_⟩
  · have e : n + f - n = f := by omega
    show IsF b (n + f) (n + f - n)
    rw [e]
    exact hg
  · have h1 := isTot_pos ht
    have h2 := isF_le hb (show n ≤ t by omega) hf ht
    omega
theorem isTot_second {b n f : Int} (hb : 2 ≤ b) (hn : 0 ≤ n) (hf : IsF b n f) (hg : IsF b (n + f) (f + 1)) : IsTot b n (n + f + 1) := by
  refine ⟨?_, fun t ht => ?_⟩
  · have e : n + f + 1 - n = f + 1 := by omega
    show IsF b (n + f + 1) (n + f + 1 - n)
    rw [e]
    exact fig_next hb hn hf hg
  · have h1 := isTot_pos ht
    have h2 := isF_le hb (show n ≤ t by omega) hf ht
    by_cases c : t = n + f
    · subst c
      have ht2 : IsF b (n + f) (n + f - n) := ht
      have e : n + f - n = f := by omega
      rw [e] at ht2
      have := isF_eq hb ht2 hg
      omega
    · omega
theorem isTot_eq {b N s t : Int} (h : IsTot b N s) (h2 : IsTot b N t) : s = t := Int.le_antisymm (h.least t h2.tot) (h2.least s h.tot)
/-- two totals lie beside one another -/
theorem tot_near {b N s t : Int} (hb : 2 ≤ b) (hN : 0 ≤ N) (h : Tot b N s) (h2 : Tot b N t) (hst : s ≤ t) : t ≤ s + 1 := by
  obtain ⟨i, e1, h3, h4⟩ := h
  obtain ⟨j, e2, h5, h6⟩ := h2
  by_cases c : t ≤ s + 1
  · exact c
  · exfalso
    have hj : b ^ j ≤ t := by
      rcases h6 with h6 | h6
      · omega
      · exact h6
    obtain ⟨m, hm⟩ : ∃ m : Nat, j = i + 1 + (m + 1) := ⟨j - i - 2, by omega⟩
    have e3 : b ^ j = b ^ (i + 1) * b ^ (m + 1) := by rw [hm, Int.pow_add]
    have p1 := pow_pos (show 1 ≤ b by omega) (i + 1)
    have p0 : 2 ≤ b ^ (i + 1) := by
      have := pow_mono (show 1 ≤ b by omega) (show 0 + 1 ≤ i + 1 by omega)
      rw [pow_one] at this
      omega
    have l1 := lt_pow hb (m + 1)
    have l2 := Int.mul_le_mul_of_nonneg_left (show ((m + 1 : Nat) : Int) + 1 ≤ b ^ (m + 1) by omega) (show 0 ≤ b ^ (i + 1) by omega)
    have l3 : b ^ (i + 1) * (((m + 1 : Nat) : Int) + 1) = b ^ (i + 1) * ((m + 1 : Nat) : Int) + b ^ (i + 1) := by rw [Int.mul_add, Int.mul_one]
    have l4 := Int.mul_le_mul_of_nonneg_right p0 (show 0 ≤ ((m + 1 : Nat) : Int) by omega)
    omega
/-- whether the next integer is a total, too -/
theorem tot_two {b N s g h : Int} (hb : 2 ≤ b) (ht : Tot b N s) (hg : IsF b s g) (hh : IsF b (s + 1) h) : (h > g ↔ Tot b N (s + 1)) := by
  have e1 : g = s - N := isF_eq hb hg ht
  constructor
  · intro c
    have h1 : h = g + 1 := by
      obtain ⟨j, rfl, h2, h3⟩ := hg
      have h4 := isF_upper (m := j + 1) hb (show s + 1 < b ^ (j + 1 + 1) by have := pow_lt hb (j + 1); omega) hh
      omega
    show IsF b (s + 1) (s + 1 - N)
    have e2 : s + 1 - N = h := by omega
    rw [e2]
    exact hh
  · intro c
    have e2 : h = s + 1 - N := isF_eq hb hh c
    omega
theorem isTot_ex {b n : Int} (hb : 2 ≤ b) (hn : 0 ≤ n) : ∃ s, IsTot b n s := by
  obtain ⟨f, hf⟩ := isF_ex hb n
  obtain ⟨g, hg⟩ := isF_ex hb (n + f)
  rcases fig_grow hb hn hf hg with e | e
  · exact ⟨_, isTot_first hb hf (by rw [← e]; rw [e] at hg ⊢; exact hg)⟩
  · exact ⟨_, isTot_second hb hn hf (by rw [← e]; exact hg)⟩
theorem pow_add_le {b : Int} (hb : 2 ≤ b) (j d : Nat) : b ^ j + d ≤ b ^ (j + d) := by
  induction d with
  | zero => simp
  | succ d ih =>
    have := pow_lt hb (j + d)
    have e : j + (d + 1) = j + d + 1 := by omega
    rw [e]
    omega
theorem two_mul_le {b : Int} (hb : 2 ≤ b) : ∀ j : Nat, 2 * (j : Int) ≤ b ^ j + 1
  | 0 => by simp
  | 1 => by rw [show (1 : Nat) = 0 + 1 from rfl, pow_one]; omega
  | j + 2 => by
    have h1 := two_mul_le hb (j + 1)
    have h2 : b ^ (j + 2) = b ^ (j + 1) * b := Int.pow_succ b (j + 1)
    have h3 := pow_mono (show 1 ≤ b by omega) (show 0 + 1 ≤ j + 1 by omega)
    rw [pow_one] at h3
    have h4 := Int.mul_le_mul_of_nonneg_left hb (show 0 ≤ b ^ (j + 1) by omega)
    omega
/-- the totals found ahead of the number k of figures -/
def totA (N s : Int) (two : Bool) (k : Int) : List Int := if k ≤ s - N then [] else if k = s - N + 1 ∨ two = false then [s] else [s, s + 1]
theorem totA_start {b N s : Int} {two : Bool} (h : IsTot b N s) : totA N s two 1 = [] := if_pos (by have := isTot_pos h.tot; omega)
/-- the one with k figures is a total -/
theorem totA_yes {b N s k : Int} {two : Bool} (hb : 2 ≤ b) (hN : 0 ≤ N) (h : IsTot b N s) (h2 : two = true ↔ Tot b N (s + 1)) (hk : Tot b N (N + k)) : totA N s two (k + 1) = totA N s two k ++ [N + k] := by
  have a := h.least _ hk
  have c := tot_near hb hN h.tot hk a
  by_cases e : N + k = s
  · have e1 : totA N s two k = [] := if_pos (by omega)
    have e2 : totA N s two (k + 1) = [s] := by
      unfold totA
      rw [if_neg (by omega), if_pos (Or.inl (by omega))]
    rw [e1, e2, e]
    rfl
  · have e0 : N + k = s + 1 := by omega
    have ht : two = true := h2.mpr (by rw [← e0]; exact hk)
    have e1 : totA N s two k = [s] := by
      unfold totA
      rw [if_neg (by omega), if_pos (Or.inl (by omega))]
    have e2 : totA N s two (k + 1) = [s, s + 1] := by
      unfold totA
      rw [if_neg (by omega), if_neg (by rw [ht]; simp; omega)]
    rw [e1, e2, e0]
    rfl
theorem totA_no {b N s k : Int} {two : Bool} (h : IsTot b N s) (h2 : two = true ↔ Tot b N (s + 1)) (hk : ¬ Tot b N (N + k)) : totA N s two (k + 1) = totA N s two k := by
  have e : N + k ≠ s := fun z => hk (by rw [z]; exact h.tot)
  unfold totA
  by_cases c : k ≤ s - N
  · rw [if_pos c, if_pos (by omega)]
  · rw [if_neg c, if_neg (by omega)]
    by_cases d : k = s - N + 1
    · have d0 : N + k = s + 1 := by omega
      have ht : two = false := by
        cases q : two with
        | false => rfl
        | true => exact absurd (by rw [d0]; exact h2.mp q) hk
      rw [if_pos (Or.inr ht), if_pos (Or.inr ht)]
    · by_cases ht : two = false
      · rw [if_pos (Or.inr ht), if_pos (Or.inr ht)]
      · rw [if_neg (fun z => z.elim (by omega) ht), if_neg (fun z => z.elim (by omega) ht)]
theorem totA_end {b N s : Int} {j : Nat} {two : Bool} (hb : 2 ≤ b) (hN : 0 ≤ N) (h : IsTot b N s) (h2 : two = true ↔ Tot b N (s + 1)) (hj : ¬ b ^ j ≤ N + ((j : Int) + 1)) : totA N s two ((j : Int) + 1) = if two then [s, s + 1] else [s] := by
  have far : ∀ t, Tot b N t → t - N < (j : Int) + 1 := fun t ht => by
    obtain ⟨i, e, h3, h4⟩ := ht
    by_cases c : i < j
    · omega
    · exfalso
      obtain ⟨d, hd⟩ : ∃ d, i = j + d := ⟨i - j, by omega⟩
      have h5 := pow_add_le hb j d
      rw [← hd] at h5
      rcases h4 with h4 | h4
      · have e0 : j = 0 := by omega
        rw [e0] at hj h5
        have : N + 1 ≤ t := by omega
        have e1 : d = 0 := by omega
        rw [e1] at h5
        simp at hj h5
        omega
      · omega
  have f1 := far s h.tot
  unfold totA
  rw [if_neg (by omega)]
  cases ht : two with
  | false => simp
  | true =>
    have f2 := far _ (h2.mp ht)
    rw [if_neg (by simp; omega)]
    rfl
/-- figures grow no faster than numbers -/
theorem fig_lip {b x y f g : Int} (hb : 2 ≤ b) (h : x ≤ y) (hf : IsF b x f) (hg : IsF b y g) : g ≤ f + (y - x) := by
  obtain ⟨j, rfl, h1, h2⟩ := hf
  obtain ⟨d, hd⟩ : ∃ d : Nat, y = x + d := ⟨(y - x).toNat, by omega⟩
  have h3 := pow_add_le hb (j + 1) d
  have h4 := isF_upper (m := j + d) hb (show y < b ^ (j + d + 1) by rw [show j + d + 1 = j + 1 + d by omega]; omega) hg
  omega
/-- the least total of the next one stands right behind the last total -/
theorem tot_step {b N s : Int} {two : Bool} (hb : 2 ≤ b) (hN : 0 ≤ N) (h : IsTot b N s) (h2 : two = true ↔ Tot b N (s + 1)) : IsTot b (N + 1) (s + (if two then [s, s + 1] else [s]).length) := by
  have last : ∃ e : Int, s + (if two then [s, s + 1] else [s]).length = e + 1 ∧ Tot b N e ∧ ¬ Tot b N (e + 1) := by
    cases q : two with
    | false => exact ⟨s, by simp, h.tot, fun z => by rw [q] at h2; have := h2.mpr z; cases this⟩
    | true =>
      refine ⟨s + 1, by simp; omega, h2.mp q, fun z => ?_⟩
      have := tot_near hb hN h.tot z (by omega)
      omega
  obtain ⟨e, e0, e1, e2⟩ := last
  rw [e0]
  obtain ⟨f, hf⟩ := isF_ex hb (e + 1)
  have f1 := isF_le hb (show e ≤ e + 1 by omega) e1 hf
  have f2 := fig_lip hb (show e ≤ e + 1 by omega) e1 hf
  have f3 : f ≠ e + 1 - N := fun z => e2 (by show IsF b (e + 1) (e + 1 - N); rw [← z]; exact hf)
  refine ⟨?_, fun t ht => ?_⟩
  · show IsF b (e + 1) (e + 1 - (N + 1))
    have : f = e + 1 - (N + 1) := by omega
    rw [← this]
    exact hf
  · by_cases c : e + 1 ≤ t
    · exact c
    · have := fig_lip hb (show t ≤ e by omega) ht e1
      omega
/-- the integer ahead of the least total is one of the length ahead -/
theorem tot_ahead {b N s f : Int} (hb : 2 ≤ b) (h : IsTot b N s) (hf : IsF b (s - 1) f) : s - 1 - f = N - 1 := by
  have h1 := fig_lip hb (show s - 1 ≤ s by omega) hf h.tot
  have h2 := isF_le hb (show s - 1 ≤ s by omega) hf h.tot
  have h3 : f ≠ s - 1 - N := fun z => by
    have := h.least (s - 1) (by show IsF b (s - 1) (s - 1 - N); rw [← z]; exact hf)
    omega
  omega
/-- so many integers from one on -/
def irun (s : Int) (n : Nat) : List Int := (List.range n).map fun (i : Nat) => s + (i : Int)
theorem irun_len (s : Int) (n : Nat) : (irun s n).length = n := by
  unfold irun
  simp
theorem irun_app (s : Int) (n : Nat) (two : Bool) : irun s n ++ (if two then [s + n, s + n + 1] else [s + n]) = irun s (n + (if two then [s, s + 1] else [s]).length) := by
  unfold irun
  cases two with
  | false => simp [List.range_succ]
  | true =>
    simp [List.range_succ]
    omega
/-- a total by its power -/
theorem tot_iff {b N : Int} {j : Nat} (hN : 0 ≤ N) (hj : b ^ j ≤ N + ((j : Int) + 1)) : Tot b N (N + ((j : Int) + 1)) ↔ N + ((j : Int) + 1) < b ^ (j + 1) := by
  have e : N + ((j : Int) + 1) - N = (j : Int) + 1 := by omega
  constructor
  · rintro ⟨i, e1, h1, _⟩
    have : i = j := by omega
    rw [this] at h1
    exact h1
  · intro h
    exact ⟨j, e, h, Or.inr hj⟩
end Sz
namespace Sz
/-! ### what wraps make of lengths -/
open Classical in
/-- how many figures -/
noncomputable def figF (b n : Int) : Int := if h : 2 ≤ b then choose (isF_ex h n) else 0
theorem figF_is {b n : Int} (h : 2 ≤ b) : IsF b n (figF b n) := by
  unfold figF
  rw [dif_pos h]
  exact Classical.choose_spec (isF_ex h n)
theorem figF_eq {b n k : Int} (hb : 2 ≤ b) (h : IsF b n k) : k = figF b n := isF_eq hb h (figF_is hb)
theorem figF_pos {b n : Int} (hb : 2 ≤ b) : 1 ≤ figF b n := isF_pos (figF_is hb)
theorem figF_mono {b n m : Int} (hb : 2 ≤ b) (h : n ≤ m) : figF b n ≤ figF b m := isF_le hb h (figF_is hb) (figF_is hb)
theorem figF_lip {b n m : Int} (hb : 2 ≤ b) (h : n ≤ m) : figF b m ≤ figF b n + (m - n) := fig_lip hb h (figF_is hb) (figF_is hb)
open Classical in
/-- the least total -/
noncomputable def totF (b n : Int) : Int := if h : 2 ≤ b ∧ 0 ≤ n then choose (isTot_ex h.1 h.2) else 0
theorem totF_is {b n : Int} (h : 2 ≤ b) (h2 : 0 ≤ n) : IsTot b n (totF b n) := by
  unfold totF
  rw [dif_pos ⟨h, h2⟩]
  exact Classical.choose_spec (isTot_ex h h2)
theorem totF_eq {b n k : Int} (hb : 2 ≤ b) (hn : 0 ≤ n) (h : IsTot b n k) : k = totF b n := isTot_eq h (totF_is hb hn)
/-- how many parts of a size a length begins -/
def beg (n m : Int) : Int := (n + m - 1) / m
inductive Wr where
  | plus (c : Int)
  | told (c : Int)
  | whole (c : Int)
  | pieces (m c : Int)
  | cut (m c : Int)
  | coded (m c : Int)
  | filled (m : Int)
def Wr.kind : Wr → PySem.Str
  | .plus _ => "plus"
  | .told _ => "told"
  | .whole _ => "whole"
  | .pieces _ _ => "pieces"
  | .cut _ _ => "cut"
  | .coded _ _ => "coded"
  | .filled _ => "filled"
def Wr.nums : Wr → List Int
  | .plus c => [c]
  | .told c => [c]
  | .whole c => [c]
  | .pieces m c => [m, c]
  | .cut m c => [m, c]
  | .coded m c => [m, c]
  | .filled m => [m]
def Wr.rng : Wr → List (Int × Int)
  | .plus _ => [(0, 1000)]
  | .told _ => [(0, 1000)]
  | .whole _ => [(0, 1000)]
  | .pieces _ _ => [(1, 60), (0, 60)]
  | .cut _ _ => [(1, 60), (0, 60)]
  | .coded _ _ => [(1, 60), (1, 120)]
  | .filled _ => [(1, 60)]
def Wr.ok : Wr → Prop
  | .plus c => 0 ≤ c ∧ c ≤ 1000
  | .told c => 0 ≤ c ∧ c ≤ 1000
  | .whole c => 0 ≤ c ∧ c ≤ 1000
  | .pieces m c => 1 ≤ m ∧ m ≤ 60 ∧ 0 ≤ c ∧ c ≤ 60
  | .cut m c => 1 ≤ m ∧ m ≤ 60 ∧ 0 ≤ c ∧ c ≤ 60
  | .coded m c => 1 ≤ m ∧ m ≤ 60 ∧ m ≤ c ∧ c ≤ 120
  | .filled m => 1 ≤ m ∧ m ≤ 60
/-- the size that a wrap makes of a length -/
noncomputable def Wr.gr (b : Int) : Wr → Int → Int
  | .plus c, n => n + c
  | .told c, n => n + c + figF b n
  | .whole c, n => totF b (n + c)
  | .pieces m c, n => n / m * (m + c + figF b m) + (if 0 < n % m then n % m + c + figF b (n % m) else 0) + c + 1
  | .cut m c, n => n + beg n m * c
  | .coded m c, n => beg n m * c
  | .filled m, n => beg n m * m
theorem nums_len {w : Wr} : w.nums.length = w.rng.length := by cases w <;> rfl
theorem nums_small {w : Wr} (h : w.ok) : ∀ x ∈ w.nums, 0 ≤ x ∧ x ≤ 1000 := by
  cases w <;> simp only [Wr.ok] at h <;> simp [Wr.nums] <;> omega
theorem beg_le {n m : Int} (hn : 0 ≤ n) (hm : 1 ≤ m) : beg n m ≤ n ∧ 0 ≤ beg n m := by
  unfold beg
  constructor
  · refine Int.le_of_lt_add_one (Int.ediv_lt_of_lt_mul (by omega) ?_)
    have := Int.mul_le_mul_of_nonneg_left hm (show 0 ≤ n by omega)
    have e : (n + 1) * m = n * m + m := by rw [Int.add_mul, Int.one_mul]
    omega
  · exact Int.ediv_nonneg (by omega) (by omega)
theorem fig_small {b m : Int} (hb : 2 ≤ b) (hm : m ≤ 60) : figF b m ≤ 6 := by
  have h : m < b ^ (5 + 1) := by
    have h1 := pow_pos (show 1 ≤ b by omega) 5
    have h2 : (64 : Int) ≤ b ^ 6 := by
      have : ∀ j : Nat, (2 : Int) ^ j ≤ b ^ j := fun j => by
        induction j with
        | zero => simp
        | succ j ih =>
          rw [Int.pow_succ, Int.pow_succ]
          exact Int.mul_le_mul ih hb (by decide) (by have := pow_pos (show 1 ≤ b by omega) j; omega)
      have := this 6
      omega
    show m < b ^ 6
    omega
  have := isF_upper (m := 5) hb h (figF_is hb)
  omega
theorem figF_le {b n : Int} (hb : 2 ≤ b) (hn : 0 ≤ n) : figF b n ≤ n + 1 := by
  have h1 := figF_lip (b := b) hb hn
  have h2 : figF b 0 ≤ 1 := by
    have := isF_upper (m := 0) hb (show (0 : Int) < b ^ (0 + 1) by rw [pow_one]; omega) (figF_is hb)
    omega
  omega
/-- a size is no less than 0, and not too great -/
theorem gr_le {b : Int} {w : Wr} (hb : 2 ≤ b) (h : w.ok) {n : Int} (hn : 0 ≤ n) : 0 ≤ w.gr b n ∧ w.gr b n ≤ 128 * n + 4096 := by
  cases w with
  | plus c =>
    simp only [Wr.ok] at h
    simp only [Wr.gr]
    omega
  | told c =>
    simp only [Wr.ok] at h
    simp only [Wr.gr]
    have h1 := figF_le (b := b) hb hn
    have h2 := figF_pos (b := b) (n := n) hb
    omega
  | whole c =>
    simp only [Wr.ok] at h
    simp only [Wr.gr]
    have t := totF_is hb (show 0 ≤ n + c by omega)
    have h1 := isTot_pos t.tot
    have f := figF_is (b := b) (n := n + c) hb
    have g := figF_is (b := b) (n := n + c + figF b (n + c)) hb
    have fl := figF_le (b := b) (n := n + c) hb (by omega)
    rcases fig_grow hb (show 0 ≤ n + c by omega) f g with e | e
    · have := t.least _ (isTot_first hb f (by rw [e] at g; exact g)).tot
      omega
    · have := t.least _ (isTot_second hb (show 0 ≤ n + c by omega) f (by rw [← e]; exact g)).tot
      omega
  | pieces m c =>
    simp only [Wr.ok] at h
    simp only [Wr.gr]
    have f1 := fig_small (b := b) (m := m) hb h.2.1
    have f2 := figF_pos (b := b) (n := m) hb
    have q0 := Int.ediv_nonneg hn (show 0 ≤ m by omega)
    have q1 : n / m ≤ n := Int.ediv_le_self _ hn
    have r0 := Int.emod_nonneg n (show m ≠ 0 by omega)
    have r1 := Int.emod_lt_of_pos n (show 0 < m by omega)
    have f3 := fig_small (b := b) (m := n % m) hb (by omega)
    have f4 := figF_pos (b := b) (n := n % m) hb
    have p0 := Int.mul_nonneg q0 (show 0 ≤ m + c + figF b m by omega)
    have p1 := Int.mul_le_mul q1 (show m + c + figF b m ≤ 126 by omega) (by omega) hn
    split <;> omega
  | cut m c =>
    simp only [Wr.ok] at h
    simp only [Wr.gr]
    have q := beg_le hn h.1
    have p0 := Int.mul_nonneg q.2 (show 0 ≤ c by omega)
    have p1 := Int.mul_le_mul q.1 (show c ≤ 60 by omega) (by omega) hn
    omega
  | coded m c =>
    simp only [Wr.ok] at h
    simp only [Wr.gr]
    have q := beg_le hn h.1
    have p0 := Int.mul_nonneg q.2 (show 0 ≤ c by omega)
    have p1 := Int.mul_le_mul q.1 (show c ≤ 120 by omega) (by omega) hn
    omega
  | filled m =>
    simp only [Wr.ok] at h
    simp only [Wr.gr]
    have q := beg_le hn h.1
    have p0 := Int.mul_nonneg q.2 (show 0 ≤ m by omega)
    have p1 := Int.mul_le_mul q.1 (show m ≤ 60 by omega) (by omega) hn
    omega
end Sz
/-! a hook that looks at whatever one wants besides, and the table of ranges -/
namespace Sz
open PySem PySem.Spec PyProof.Rows L2
abbrev AlX : Type := Bool × He.AlT
/-- what an object names, its class's line left out: what the module names is there already -/
def refsX (o : Obj) : List Addr := match o.data with
  | .seq its _ => its.toList.flatMap He.refV
  | .dict es _ => es.toList.flatMap fun e => He.refV e.val
  | .func fd => He.refV fd.code ++ (He.refV fd.defaults ++ (He.refV fd.kwdefaults ++ fd.closure.map (·.2)))
  | .cls cd => [cd.ns]
  | .fields vs => vs.toList.flatMap He.refV
  | .cell (some v) => He.refV v
  | _ => []
def layerX (g : Addr → Option Obj) (as : List Addr) : List Addr := as.flatMap fun a => match g a with
  | some o => refsX o
  | none => []
/-- layer by layer, nothing looked at twice -/
def layersX (g : Addr → Option Obj) : Nat → List Addr → List Addr
  | 0, l => l
  | n + 1, l => l ++ layersX g n (layerX g l)
def asX (g : Addr → Option Obj) (n : Nat) : List Addr := layersX g n [mainGlobals]
def obsX (fb : PySem.W.Frag → Bool) (fa : List He.Fa) (fn : List He.DefD) (ts : List He.Tab) (K : PySem.W.Frag) : AlX := (fb K, He.obsT fa fn ts K)
def valX (fn : List He.DefD) (ts : List He.Tab) (w : World) : AlX := (true, He.valT fn ts w)
def obsXG (n : Nat) (fb : PySem.W.Frag → Bool) (fa : List He.Fa) (fn : List He.DefD) (ts : List He.Tab) (g : Addr → Option Obj) : AlX := obsX fb fa fn ts (He.frG g (asX g n))
def SaysX (fb : PySem.W.Frag → Bool) (fa : List He.Fa) (fn : List He.DefD) (ts : List He.Tab) (w : World) (K : PySem.W.Frag) : Prop := obsX fb fa fn ts K = valX fn ts w
def hookX (n : Nat) (fb : PySem.W.Frag → Bool) (fa : List He.Fa) (fn : List He.DefD) (ts : List He.Tab) : PySem.W.Hook where
  α := AlX
  obs := fun s => obsXG n fb fa fn ts s.heap.get?
  val := fun w => valX fn ts w
  says := fun w h => ∃ K : PySem.W.Frag, K.In h ∧ SaysX fb fa fn ts w K
  of := fun _ _ e => ⟨_, He.frG_in, e⟩
  keeps := fun _ _ _ ⟨K, hK, c⟩ k => ⟨K, PySem.W.Frag.In.keeps hK k, c⟩
theorem obsXG_eq {n : Nat} {fb : PySem.W.Frag → Bool} {fa : List He.Fa} {fn : List He.DefD} {ts : List He.Tab} {g : Addr → Option Obj} {s : Shared} (h : ∀ a, g a = s.heap.get? a) : obsXG n fb fa fn ts g = (hookX n fb fa fn ts).obs s := by
  rw [show g = s.heap.get? from funext h]
  rfl
section
variable {fb : PySem.W.Frag → Bool} {fa : List He.Fa} {fn : List He.DefD} {ts : List He.Tab} {w : World} {K : PySem.W.Frag}
theorem SaysX.t (c : SaysX fb fa fn ts w K) : He.SaysT fa fn ts w K := congrArg (fun z : AlX => z.2) c
theorem SaysX.b (c : SaysX fb fa fn ts w K) : fb K = true := congrArg (fun z : AlX => z.1) c
end
/-! ### the table of ranges: tuples of pairs -/
def pairB (K : PySem.W.Frag) (u : Value) (q : Int × Int) : Bool := match u with
  | .ref a => (match K.lookup a with
    | some ⟨.type c, _, .seq its _, _⟩ => decide (c = "tuple") && (decide (its.size ≤ sizeLine) && He.relAll [.int q.1, .int q.2] its.toList)
    | _ => false)
  | _ => false
def pairsB (K : PySem.W.Frag) : List Value → List (Int × Int) → Bool
  | [], [] => true
  | u :: us, q :: qs => pairB K u q && pairsB K us qs
  | _, _ => false
def rngB (K : PySem.W.Frag) (D : Addr) (kd : Str) (qs : List (Int × Int)) : Bool := match PySem.W.nsIn K D kd with
  | some (some (.ref b)) => (match K.lookup b with
    | some ⟨.type c, _, .seq its _, _⟩ => decide (c = "tuple") && (decide (its.size ≤ sizeLine) && pairsB K its.toList qs)
    | _ => false)
  | _ => false
inductive Pairs (K : PySem.W.Frag) : List V → List (Int × Int) → Prop where
  | nil : Pairs K [] []
  | cons {a : Addr} {xs : List V} {q : Int × Int} {qs : List (Int × Int)} (h : ∀ H, SqT K H a [.int q.1, .int q.2]) (r : Pairs K xs qs) : Pairs K (.ref a :: xs) (q :: qs)
theorem Pairs.len {K : PySem.W.Frag} {xs : List V} {qs : List (Int × Int)} (h : Pairs K xs qs) : xs.length = qs.length := by
  induction h with
  | nil => rfl
  | cons _ _ ih => exact congrArg (· + 1) ih
theorem Pairs.get {K : PySem.W.Frag} {xs : List V} {qs : List (Int × Int)} (h : Pairs K xs qs) : ∀ {i : Nat} {x : V}, xs[i]? = some x → ∃ (a : Addr) (q : Int × Int), x = .ref a ∧ qs[i]? = some q ∧ ∀ H, SqT K H a [.int q.1, .int q.2] := by
  induction h with
  | nil =>
    intro i x e
    simp at e
  | cons h _ ih =>
    intro i x e
    cases i with
    | zero =>
      simp at e
      exact ⟨_, _, e.symm, rfl, h⟩
    | succ i => exact ih (by simpa using e)
theorem pairB_ok {K : PySem.W.Frag} {u : Value} {q : Int × Int} (h : pairB K u q = true) : ∃ a, u = .ref a ∧ ∀ H, SqT K H a [.int q.1, .int q.2] := by
  cases u with
  | ref a =>
    refine ⟨a, rfl, fun H => ?_⟩
    have h : (match K.lookup a with
      | some ⟨.type c, _, .seq its _, _⟩ => decide (c = "tuple") && (decide (its.size ≤ sizeLine) && He.relAll [.int q.1, .int q.2] its.toList)
      | _ => false) = true := h
    cases e : K.lookup a with
    | none =>
      rw [e] at h
      cases h
    | some o =>
      obtain ⟨oc, od, dt, osl⟩ := o
      rw [e] at h
      cases oc with
      | type c =>
        cases dt with
        | seq its n =>
          obtain ⟨h1, h2⟩ := He.ba h
          obtain ⟨h3, h4⟩ := He.ba h2
          exact .inr ⟨_, its, n, e, congrArg Value.type (of_decide_eq_true h1), rfl, of_decide_eq_true h3, He.relAll_ok h4⟩
        | _ => cases h
      | _ => cases dt <;> cases h
  | _ => cases h
theorem pairsB_ok {K : PySem.W.Frag} : ∀ {us : List Value} {qs : List (Int × Int)}, pairsB K us qs = true → ∃ xs, Vals xs us ∧ Pairs K xs qs
  | [], [], _ => ⟨[], .nil, .nil⟩
  | [], _ :: _, h => by cases h
  | _ :: _, [], h => by cases h
  | u :: us, q :: qs, h => by
    obtain ⟨h1, h2⟩ := He.ba (show (pairB K u q && pairsB K us qs) = true from h)
    obtain ⟨a, rfl, ha⟩ := pairB_ok h1
    obtain ⟨xs, r, p⟩ := pairsB_ok h2
    exact ⟨.ref a :: xs, .cons rfl r, .cons ha p⟩
/-- the kind kd has these ranges -/
def Rng (K : PySem.W.Frag) (D : Addr) (kd : Str) (qs : List (Int × Int)) : Prop := ∃ b xs, PySem.W.nsIn K D kd = some (some (.ref b)) ∧ (∀ H, SqT K H b xs) ∧ Pairs K xs qs
theorem rngB_ok {K : PySem.W.Frag} {D : Addr} {kd : Str} {qs : List (Int × Int)} (h : rngB K D kd qs = true) : Rng K D kd qs := by
  unfold rngB at h
  cases e : PySem.W.nsIn K D kd with
  | none =>
    rw [e] at h
    cases h
  | some r =>
    rw [e] at h
    cases r with
    | none => cases h
    | some u =>
      cases u with
      | ref b =>
        have h : (match K.lookup b with
          | some ⟨.type c, _, .seq its _, _⟩ => decide (c = "tuple") && (decide (its.size ≤ sizeLine) && pairsB K its.toList qs)
          | _ => false) = true := h
        cases e2 : K.lookup b with
        | none =>
          rw [e2] at h
          cases h
        | some o =>
          obtain ⟨oc, od, dt, osl⟩ := o
          rw [e2] at h
          cases oc with
          | type c =>
            cases dt with
            | seq its n =>
              obtain ⟨h1, h2⟩ := He.ba h
              obtain ⟨h3, h4⟩ := He.ba h2
              obtain ⟨xs, r, p⟩ := pairsB_ok h4
              exact ⟨b, xs, e, fun H => .inr ⟨_, its, n, e2, congrArg Value.type (of_decide_eq_true h1), rfl, of_decide_eq_true h3, r⟩, p⟩
            | _ => cases h
          | _ => cases dt <;> cases h
      | _ => cases h
/-- RANGES[kind] -/
theorem ix_kd {X : Cx} {d : Addr} {es : Array DictEntry} {n : Nat} (D : KDict X.K X.w d es n) : True := trivial
end Sz
/-! own classes: methods and makers by their promises -/
namespace Sz
open PySem PySem.Spec PyProof.Rows L2
/-- a method's def by its class -/
def DefAtM (K : PySem.W.Frag) (C m q : Str) (st : Stmt) : Prop := ∃ fd, FunD K m q (defArgs st) (defBody st) (defScope st) [] [] (He.ma K (He.ga K C) m) fd
/-- the method m of C keeps the promise sp (the receiver stands first) -/
structure PromM (P : Program) (w : World) (K : PySem.W.Frag) (mg : Str → Option Value) (base : Heap) (CX : CXT) (k : Nat) (C m : Str) (ps : List Str) (sp : Sp) : Prop where
  cl : Cls K (He.ga K C)
  me : Meth K (He.ga K C) m (He.ma K (He.ga K C) m)
  ex : ∃ fd, FnOk P w K mg base CX k (He.ma K (He.ga K C) m) fd ps sp ∧ Binds K fd ps []
/-- C(..) keeps the promise sp: what is told of the values handed in -/
structure PromC (P : Program) (w : World) (K : PySem.W.Frag) (mg : Str → Option Value) (base : Heap) (CX : CXT) (k : Nat) (C : Str) (sp : Sp) : Prop where
  make : Mk K (He.ga K C) (He.ma K (He.ga K C) "__init__")
  mg_ : mg C = some (.ref (He.ga K C))
  ex : ∃ sp0, FnR P w K mg base CX k (He.ma K (He.ga K C) "__init__") sp0 ∧ ∀ vs H Q E, sp vs H Q E → ∀ x dx, H x = none → H dx = none → dx ≠ x →
    sp0 (V.ref x :: vs) (upd (upd H dx (.own x)) x (.ins (He.ga K C) dx [])) (fun v H2 => v = .non ∧ Q (.ref x) H2) E
section
variable {P : Program} {w : World} {K : PySem.W.Frag} {mg : Str → Option Value} {base : Heap}
theorem PromM.of {C m q : Str} {st : Stmt} {ps N : List Str} {sp : Sp} {k : Nat} (cl : Cls K (He.ga K C)) (me : Meth K (He.ga K C) m (He.ma K (He.ga K C) m)) (D : DefAtM K C m q st) (S : FnScope N ps (defScope st)) (len : ∀ vs H Q E, sp vs H Q E → vs.length = ps.length)
    (hb : ∀ (kV doc pm : Value) (an : Option Addr) (cdv ct : Value) (us : List Value), us.length = ps.length → bindArgs (PySem.W.fnOf m q (defArgs st) (defBody st) (defScope st) .none kV doc pm an cdv ct) ⟨us, []⟩ = pure (ps.zip us))
    (hbody : ∀ (f : Addr) (cdv : Value) (A : Around) (outer : List Env) (s : Shared) (H : Hp) (vs : List V) (Q : VK) (E : XK), Room k (A.deeper (envOfC q (defScope st) s.heap.objs.size f cdv)) → sp vs H Q E →
      ∃ t, PSs (cxOf CX0 P w K mg base N q (defScope st) f cdv A outer s H E).nox (defBody st) t ∧ t { nx := fun _ H' => Q .non H', rt := Q } (start N vs) H) :
    PromM P w K mg base CX0 (k + 1) C m ps sp := by
  obtain ⟨fd, F⟩ := D
  refine ⟨cl, me, fd, F.ok S len (fun cdv A outer s H vs Q E hr hs => ?_), F.bindsN hb⟩
  obtain ⟨t, h1, h2⟩ := hbody _ cdv A outer s H vs Q E hr hs
  exact ⟨t, h1.nox, h2⟩
/-- a class whose __init__ takes (self, one, *rest) -/
theorem PromC.star {C q p0 p1 pv : Str} {st : Stmt} {N : List Str} {sp sp0 : Sp} {k : Nat} (mk : Mk K (He.ga K C) (He.ma K (He.ga K C) "__init__")) (hm : mg C = some (.ref (He.ga K C))) (D : DefAtM K C "__init__" q st) (S : FnScope N [p0, p1, pv] (defScope st))
    (h0 : ∀ (kV doc pm : Value) (an : Option Addr) (cdv ct a b : Value), bindArgs (PySem.W.fnOf "__init__" q (defArgs st) (defBody st) (defScope st) .none kV doc pm an cdv ct) ⟨[a, b], []⟩ = (newTuple [] >>= fun t => pure [(p0, a), (p1, b), (pv, t)]))
    (h1 : ∀ (kV doc pm : Value) (an : Option Addr) (cdv ct a b r : Value) (rs : List Value), bindArgs (PySem.W.fnOf "__init__" q (defArgs st) (defBody st) (defScope st) .none kV doc pm an cdv ct) ⟨a :: b :: r :: rs, []⟩ = (newTuple (r :: rs) >>= fun t => pure [(p0, a), (p1, b), (pv, t)]))
    (hbody : ∀ (f : Addr) (cdv : Value) (A : Around) (outer : List Env) (s : Shared) (H : Hp) (vs : List V) (Q : VK) (E : XK), Room k (A.deeper (envOfC q (defScope st) s.heap.objs.size f cdv)) → sp0 vs H Q E →
      ∃ t, PSs (cxOf CX0 P w K mg base N q (defScope st) f cdv A outer s H E).nox (defBody st) t ∧ t { nx := fun _ H' => Q .non H', rt := Q } (start N vs) H)
    (hsp : ∀ vs H Q E, sp vs H Q E → ∃ v rest, vs = v :: rest ∧ rest.length ≤ sizeLine ∧ ∀ x dx p, H x = none → H dx = none → dx ≠ x → p ≠ x → p ≠ dx → H p = none →
      sp0 [.ref x, v, .ref p] (upd (upd (upd H dx (.own x)) x (.ins (He.ga K C) dx [])) p (.tup rest)) (fun u H2 => u = .non ∧ Q (.ref x) H2) E) :
    PromC P w K mg base CX0 (k + 1) C sp := by
  obtain ⟨fd, F⟩ := D
  obtain ⟨oc, od, dV, kV, doc, pm, an, cdv, ct, osl, rfl, lk, hcd, hD, hK⟩ := F.ex
  rcases hD with ⟨_, rfl⟩ | ⟨e, _⟩
  · refine ⟨mk, hm, _, StX.fn_star (ps := [p0, p1]) (pv := pv) (sp := sp0) lk hcd S StX.cxUp_none (StX.bind_star2 (B := fun us => bindArgs _ ⟨us, []⟩) (fun a b => h0 kV doc pm an cdv ct a b) fun a b r rs => h1 kV doc pm an cdv ct a b r rs) (fun A outer s H vs Q E hr hs => ?_), fun vs H Q E hs x dx hx hdx ne => ?_⟩
    · obtain ⟨t, h1, h2⟩ := hbody _ cdv A outer s H vs Q E hr hs
      exact ⟨t, h1.nox, h2⟩
    · obtain ⟨v, rest, rfl, hl, hq⟩ := hsp vs H Q E hs
      refine ⟨[.ref x, v], rest, rfl, rfl, hl, fun p hp => ?_⟩
      have nx : p ≠ x := fun z => by rw [z, upd_same] at hp; cases hp
      rw [upd_ne nx] at hp
      have nd : p ≠ dx := fun z => by rw [z, upd_same] at hp; cases hp
      rw [upd_ne nd] at hp
      exact hq x dx p hx hdx ne nx nd hp
  · exact absurd rfl e
end
section
variable {X : Cx} {CX : CXT} {k : Nat} {x C m : Str} {ps : List Str} {sp : Sp} {E : XK} {e o : Expr} {es : List Expr} {ta : TE} {t : TA} {p pos apos : Pos}
theorem pe_methP {pl : Sem Bool} (G : PromM X.prog X.w X.K X.mg X.base CX k C m ps sp) (hr : Room k X.A) (hx : Passes CX X E) (he : PE X o ta) (ha : PA X (e :: es) t)
    (hst : starEach (e :: es) X.env = (false, eval e X.env) :: starEach es X.env := by rfl) (hpl : (backTo pos (starEach es X.env)).any (·.1) = false := by rfl)
    (ht : eval (.Call (.Attribute o m apos) (e :: es) [] pos) X.env = (do
      let ov ← eval o X.env
      standAt apos.atName
      let (f, first) ← holding [ov] (getMethod ov m pl)
      callWith pos f first (backTo pos (starEach (e :: es) X.env)) (backToKw pos (keywordEach [] X.env))) := by rfl) : PE X (.Call (.Attribute o m apos) (e :: es) [] pos) (tMeth (He.ga X.K C) m sp [] E ta t) := by
  obtain ⟨fd, F, b⟩ := G.ex
  exact pe_meth he G.cl G.me F hr b .nil hx ha hst hpl ht
theorem pe_methP0 {pl : Sem Bool} (G : PromM X.prog X.w X.K X.mg X.base CX k C m ps sp) (hr : Room k X.A) (hx : Passes CX X E) (he : PE X o ta)
    (ht : eval (.Call (.Attribute o m apos) [] [] pos) X.env = (do
      let ov ← eval o X.env
      standAt apos.atName
      let (f, first) ← holding [ov] (getMethod ov m pl)
      callWith pos f first (backTo pos (starEach [] X.env)) (backToKw pos (keywordEach [] X.env))) := by rfl) : PE X (.Call (.Attribute o m apos) [] [] pos) (tMeth (He.ga X.K C) m sp [] E ta tNil) := by
  obtain ⟨fd, F, b⟩ := G.ex
  exact pe_meth0 he G.cl G.me F hr b .nil hx ht
/-- C(e, ..) by what is promised of it -/
def tNew (sp : Sp) (E : XK) (t : TA) : TE := fun σ H Q => t σ H fun vs H1 => sp vs H1 Q E
theorem pe_newP (G : PromC X.prog X.w X.K X.mg X.base CX k x sp) (hr : Room (k + 1) X.A) (hg : Gl X x) (hx : Passes CX X E) (ha : PA X (e :: es) t)
    (hdb : (x == ("__debug__" : Str)) = false := by decide) (he : starEach (e :: es) X.env = (false, eval e X.env) :: starEach es X.env := by rfl) (hpl : (backTo pos (starEach es X.env)).any (·.1) = false := by rfl) :
    PE X (.Call (.Name x p) (e :: es) [] pos) (tNew sp E t) := by
  obtain ⟨sp0, F, hs⟩ := G.ex
  refine ⟨fun pins s σ H Q I h => wpAny_Call_Name_kw (ld_glob I hg G.mg_ (PySem.W.callWith_K (h₀ := X.base) I.ok.mod.kin G.make.kp (thn (ha.run pos pins s σ H _ I h) fun us s1 ⟨vs, H1, I1, r, q⟩ => ⟨I1.kIn, ?_⟩) he hpl) hdb)⟩
  exact StX.run_makeR G.make F hr hx I1 r fun a dx h1 h2 h3 => hs vs H1 Q E q a dx h1 h2 h3
/-- C(e, .., *y) -/
theorem pe_newS (G : PromC X.prog X.w X.K X.mg X.base CX k x sp) (hr : Room (k + 1) X.A) (hg : Gl X x) (hx : Passes CX X E) (ha : PA X (e :: es) t)
    (hdb : (x == ("__debug__" : Str)) = false := by decide) (he : starEach (e :: es) X.env = (false, eval e X.env) :: starEach es X.env := by rfl) (hst : (backTo pos (starEach es X.env)).any (·.1) = true := by rfl) :
    PE X (.Call (.Name x p) (e :: es) [] pos) (tNew sp E t) := by
  obtain ⟨sp0, F, hs⟩ := G.ex
  refine ⟨fun pins s σ H Q I h => wpAny_Call_Name_kw (ld_glob I hg G.mg_ (PySem.W.callWith_S2 (h₀ := X.base) I.ok.mod.kin G.make.kp (thn (ha.run pos pins s σ H _ I h) fun us s1 ⟨vs, H1, I1, r, q⟩ => ⟨I1.kIn, ?_⟩) he hst) hdb)⟩
  exact StX.run_makeR G.make F hr hx I1 r fun a dx h1 h2 h3 => hs vs H1 Q E q a dx h1 h2 h3
end
/-- s[i], s a list or a tuple -/
theorem ix_any {X : Cx} : IxR X (fun x y H Q => rIxL X.K x y H Q ∨ rIxT X.K x y H Q) := by
  intro value slice pins s σ H x y v u Q I rx ry h hs
  rcases h with h | h
  · exact ix_list value slice pins s σ H x y v u Q I rx ry h hs
  · exact ix_tup value slice pins s σ H x y v u Q I rx ry h hs
theorem pe_gstr {X : Cx} {x : Str} {pos : Pos} {v : Str} (h : ∃ u, X.mg x = some (.str v u)) (hg : Gl X x := by rfl) (hd : (x == ("__debug__" : Str)) = false := by decide) : PE X (.Name x pos) (tC (.str v)) := by
  obtain ⟨u, hm⟩ := h
  exact pe_glob hg hm ⟨_, rfl⟩ hd
/-- what isinstance asks of an own class -/
structure IsiK (K : PySem.W.Frag) (C : Addr) : Prop where
  cl : Cls K C
  ha : PySem.W.findIn K (.ref C) "__class__" = some (some (.builtin "object.__class__"))
  hn : PySem.W.specialIn K (.builtin "object.__class__") "__get__" = some (some (.builtin "getset_descriptor.__get__"))
  htk : PySem.W.takesIn K (.builtin "object.__class__") = some true
  hm : PySem.W.mroIn K C (.type "object") = some true
def isiB (K : PySem.W.Frag) (C : Addr) : Bool := He.eqO (PySem.W.findIn K (.ref C) "__class__") (some (some (.builtin "object.__class__"))) && (He.eqO (PySem.W.specialIn K (.builtin "object.__class__") "__get__") (some (some (.builtin "getset_descriptor.__get__"))) &&
  (decide (PySem.W.takesIn K (.builtin "object.__class__") = some true) && decide (PySem.W.mroIn K C (.type "object") = some true)))
theorem isiB_ok {K : PySem.W.Frag} {C : Addr} (cl : Cls K C) (h : isiB K C = true) : IsiK K C := by
  obtain ⟨h1, h⟩ := He.ba h
  obtain ⟨h2, h⟩ := He.ba h
  obtain ⟨h3, h4⟩ := He.ba h
  exact ⟨cl, He.eqO_ok h1, He.eqO_ok h2, of_decide_eq_true h3, of_decide_eq_true h4⟩
theorem IsiK.ty {K : PySem.W.Frag} {C : Addr} (i : IsiK K C) {H : Hp} {a dx : Addr} {fs : List (Str × V)} (h : H a = some (.ins C dx fs)) : TyX K H (.ref a) (.ref C) := .base (.ins h i.cl i.ha i.hn i.htk i.hm)
theorem kit_self {K : PySem.W.Frag} {t : Value} : PySem.W.kitOne K t t = some true := by
  unfold PySem.W.kitOne
  rw [if_pos (by simp)]
end Sz
/-! enumerate over a tuple (the hand layer has it for lists): by what the tuple's iterator draws -/
namespace Sz
open PySem PySem.Spec PyProof.Rows L2
/-- enumerate(v) where iter(v) begins an object o -/
theorem meets_enum1 {v : Value} {o : Obj} {Hh : Heap → Prop} (B : Begins v o Hh) : Meets (Builtin.«enumerate.__new__» ⟨[.type "enumerate", v], []⟩) (fun _ R s => Hh s.heap ∧ R (.ok (.ret (.ref (s.heap.push o).objs.size)))
    { s with heap := (s.heap.push o).push { cls := .type "enumerate", data := .fields #[.none, .bool false, .ref s.heap.objs.size, rawInt 0, .none, .none] } }) := .of_wp fun prog w A R s h => by
  obtain ⟨hp, g, d, tk, os⟩ := s
  have hsub := sub_enumerate
  have it1 : ∀ {A' : Around} {Ex : Value → Shared → Prop} {Q : Value → Shared → Prop}, Q (.ref hp.objs.size) ⟨hp.push o, g, d, tk, os⟩ → wpAny (model prog w) A' (pyIter v) Q Ex ⟨hp, g, d, tk, os⟩ := fun q => B.iter prog w _ _ ⟨hp, g, d, tk, os⟩ _ h.1 q
  wp_walk using it1
  refine wpAny_stack_any (fun st => wpAny_pure ?_)
  split
  · rename_i c _ _ _ _ _
    cases (c == Value.type "enumerate") <;> (wp_walk using it1; exact ⟨_, rfl, h.2⟩)
  · wp_walk using it1
    exact ⟨_, rfl, h.2⟩
theorem call_enum1 {prog : Program} {w : World} {A : Around} {Ex : Value → Shared → Prop} {s : Shared} {v : Value} {o : Obj} {Hh : Heap → Prop} {Q : Value → Shared → Prop} (B : Begins v o Hh) (h1 : Hh s.heap)
    (k : ∀ h', IsEnum h' (s.heap.objs.size + 1) s.heap.objs.size 0 .none → h'.get? s.heap.objs.size = some o → (∀ b u, s.heap.get? b = some u → h'.get? b = some u) → Q (.ref (s.heap.objs.size + 1)) { s with heap := h' }) :
    wpAny (model prog w) A (call (.type "enumerate") [v]) Q Ex s := by
  refine callType_new F.called_enumerate (by decide) (F.typeCall_enumerate_1 _) (F.newCall_enumerate_1 _) (fun obj => F.args_object_init_2 obj _) F.entry_enumerate_new (meets_enum1 B) ⟨h1, ?_⟩
  have z : (s.heap.push o).objs.size = s.heap.objs.size + 1 := Heap.size_push ..
  have e := Heap.get?_push_size (s.heap.push o) (o := { cls := .type "enumerate", data := .fields #[.none, .bool false, .ref s.heap.objs.size, rawInt 0, .none, .none] }) rfl
  rw [z] at e
  show _ ∧ _
  rw [z]
  exact ⟨⟨_, e, rfl⟩, k _ e (Heap.get?_push_of_some _ (Heap.get?_push_size _ B.free)) fun b u x => Heap.get?_push_of_some _ (Heap.get?_push_of_some _ x)⟩

/-- the tuple at a, each item in a new pair -/
def IteT (K : PySem.W.Frag) (a : Addr) : It where
  go := fun i H => ∃ (xs : List V) (x : V), SqT K H a xs ∧ xs[i]? = some x
  yld := fun i H v H' => ∃ T x, v = .ref T ∧ H T = none ∧ H' = upd H T (.tup [.int (i : Nat), x]) ∧ ∀ xs, SqT K H a xs → xs[i]? = some x
  stop := fun i H => ∃ xs : List V, SqT K H a xs ∧ xs.length ≤ i
section
variable {X : Cx} {pins : List (Addr × Obj)} {σ : L2.St} {H : Hp} {s : Shared} {a e it : Addr} {i : Nat} {old : Value} {its : List Value}
theorem enumT_walks (hd : X.A.handled = none) (he : IsEnum s.heap e it ((i : Nat) : Int) old) (hit : s.heap.IsTupleIter it a i) (hne : e ≠ it) (p : s.heap.IsTuple a its.toArray) :
    WalksT X.prog X.w X.A e [e, it, a] [e, it] its.toArray.size (fun i vals => ∃ t x, its.toArray[i]? = some x ∧ vals = #[.int i t, x]) (fun i h => (∃ old, IsEnum h e it i old) ∧ h.IsTupleIter it a i ∧ h.IsTuple a its.toArray)
      (fun i T h => (∃ x, IsEnumOut h e it ((i : Int) + 1) x T) ∧ (h.IsTupleIter it a (i + 1) ∧ h.IsTuple a its.toArray) ∧ T ≠ e ∧ T ≠ it) := by
  have n1 : a ≠ it := fun z => by
    obtain ⟨o1, q1, c1, _⟩ := p
    obtain ⟨o2, q2, c2, _⟩ := hit
    rw [z, q2] at q1
    cases q1
    exact absurd (c2.symm.trans c1) (by decide)
  have n2 : e ≠ a := fun z => by
    obtain ⟨o1, q1, c1, _⟩ := p
    have he' : s.heap.get? e = _ := he
    rw [z, q1] at he'
    cases he'
    have c1 : Value.type "enumerate" = Value.type "tuple" := c1
    exact absurd c1 (by decide)
  exact WalksT.enumerateD (A := X.A) (Draws.tuple (A := X.A.in1) hd it a n1 its.toArray) e hne (by simp [hne, n2]) (by simp)
end
theorem enumT_done {prog : Program} {w : World} {A : Around} {Ex : Value → Shared → Prop} {s : Shared} {a e it : Addr} {i : Nat} {old : Value} {items : Array Value} {Q : Option Value → Shared → Prop} (hh : A.handled = none) (he : IsEnum s.heap e it ((i : Nat) : Int) old)
    (hit : s.heap.IsTupleIter it a i) (p : s.heap.IsTuple a items) (hx : items[i]? = none) (k : ∀ h', Heap.ExtBut it s.heap h' → Q none { s with heap := h' }) : wpAny (model prog w) A (pyNext (.ref e)) Q Ex s := by
  unfold pyNext
  refine wpAny_bind (wpAny_attempt (wpAny_callSpecial?_slot (name := Str.ofString "__next__") ⟨_, he, rfl⟩ F.slot_enumerate_next (wpAny_call_entry F.slot_enumerate_next ⟨_, he, rfl⟩ F.entry_enumerate_next ?_ (F.args_enumerate_next_1 _))))
  show wpAny _ _ (field (.ref e) 2 >>= _) _ _ s
  refine wpAny_bind (wpAny_field he rfl (x := .ref it) rfl (wpAny_bind (wpAny_nextOf_tuple_end hh hit p hx fun h' x ext ⟨o, ho, hc⟩ => ?_)))
  exact wpAny_bind (wpAny_isInstance (T := "StopIteration") (b := true) ⟨o, ho, hc⟩ isSubtype_stop (wpAny_pure (k _ ext)))
theorem turn_enumT {P : Program} {w : World} {K : PySem.W.Frag} {elts : List Expr} {kk : Nat} {tpos : Pos} (a e it : Addr) :
    Turn P w K (.Tuple elts kk tpos) (IteT K a) [e, it] e (fun i h => (∃ old, IsEnum h e it ((i : Nat) : Int) old) ∧ h.IsTupleIter it a i ∧ e ≠ it) where
  mem := List.mem_cons_self ..
  obj := fun i h st b hb => by
    obtain ⟨⟨old, he⟩, ⟨o, ho, _, hd⟩, _⟩ := st
    rcases List.mem_cons.mp hb with z | z
    · subst z
      exact ⟨_, he, fun v q => nomatch q⟩
    · rw [List.mem_singleton.mp z]
      exact ⟨o, ho, fun v q => by rw [hd] at q; cases q⟩
  keep := fun i h h' ⟨⟨old, he⟩, hi, hne⟩ k => ⟨⟨old, k e (List.mem_cons_self ..) _ he⟩, hi.at fun o q => k it (List.mem_cons_of_mem _ (List.mem_cons_self ..)) o q, hne⟩
  item := by
    intro X hP hw hK hc i pins s σ H E I hf ⟨⟨old, he⟩, hit, hne⟩ ⟨xs, x, hq, hx⟩
    subst hP hw hK
    obtain ⟨its, rv, p, hz⟩ := I.tuple hq
    obtain ⟨u, hu, ru⟩ := rv.get hx
    have p' : s.heap.IsTuple a its.toArray := p
    have W := enumT_walks (X := X) (I.ok.hd hc) he hit hne p'
    have hlt : i < its.toArray.size := by simpa using (List.getElem?_eq_some_iff.mp hu).1
    refine W.item i s _ E hlt ⟨⟨old, he⟩, hit, p'⟩ fun T vals h' tk hv hT isT mid k1 => ⟨_, rfl, ?_⟩
    obtain ⟨t, y, hy, rfl⟩ := hv
    have ey : u = y := by
      have e1 : its.toArray[i]? = some u := by simpa using hu
      exact Option.some.inj (e1.symm.trans hy)
    subst ey
    refine W.go elts kk tpos i T { s with heap := h', toks := tk } _ E mid fun h2 st2 k2 => ?_
    have away := W.apart i T h' mid
    obtain ⟨oT, hoT, cT, nT, dT⟩ := isT
    have hoT2 : h2.get? T = some oT := k2 T oT away hoT
    have new : ObjOk X.prog X.w (upd H T (.tup [.int (i : Nat), x])) h2 T (.tup [.int (i : Nat), x]) := ⟨by show 2 ≤ sizeLine; decide, [.int i t, u], .cons ⟨_, rfl⟩ (.cons ru .nil), ⟨oT, hoT2, cT, nT, dT⟩⟩
    have I1 : Inv X pins σ (upd H T (.tup [.int (i : Nat), x])) { s with heap := h2, toks := tk } := I.turnedNew (ch := [e, it]) (fun b ob hb q => k2 b ob hb (k1 b ob hb q)) hf hT new
    refine ⟨.ref T, _, I1, rfl, ⟨T, x, rfl, I.hok.fresh hT, rfl, fun ys hy => by rw [I.tuple_inj hy hq]; exact hx⟩, ⟨st2.1, st2.2.1, hne⟩, fun b hb => ?_⟩
    have nb : b ≠ T := fun z => away (by rw [← z]; exact hb)
    rw [upd_ne nb]
    exact (hf b hb).1
  done := by
    intro X hP hw hK hc i pins s σ H E I hf ⟨⟨old, he⟩, hit, hne⟩ ⟨xs, hq, hx⟩
    subst hP hw hK
    obtain ⟨its, rv, p, hz⟩ := I.tuple hq
    have p' : s.heap.IsTuple a its.toArray := p
    have hl := rv.length
    obtain ⟨o, ho, cT, nT, dT⟩ := id p'
    obtain ⟨f0, f1, f2, f3, f4, f5⟩ := hf it (List.mem_cons_of_mem _ (List.mem_cons_self ..))
    refine enumT_done (I.ok.hd hc) he hit p' (by simp; omega) fun h' ex => ⟨rfl, I.turned (t' := s.toks) (fun b ob hb q => ex b ob hb q) f0 f1 f3 f4 f5⟩
  self := fun A i s Q E ⟨⟨_, he⟩, _⟩ h => wpAny_pyIter_enum he h
def iEnumT (K : PySem.W.Frag) (ta : TA) : TI := fun σ H R => ta σ H fun vs H1 => ∃ a xs, vs = [.ref a] ∧ SqT K H1 a xs ∧ R (IteT K a) H1
theorem pi_enumT {X : Cx} {e : Expr} {ta : TA} {p pos tpos : Pos} {elts : List Expr} {kk : Nat} (hg : Gl X "enumerate") (hm : X.mg "enumerate" = none) (ha : PA X [e] ta) (hs : starEach [e] X.env = [(false, eval e X.env)] := by rfl) :
    PI X (.Tuple elts kk tpos) (.Call (.Name "enumerate" p) [e] [] pos) (iEnumT X.K ta) := by
  refine ⟨fun pins s σ H R I h => Call_ (ld_blt I hg hm boot_enumerate (PyProof.Rows.callWith_type1 (thn (ha.run pos pins s σ H _ I h) fun us s1 ⟨vs, H1, I1, r1, q1⟩ => ?_) hs rfl))⟩
  obtain ⟨a, xs, rfl, hq, q⟩ := q1
  cases r1 with
  | cons r rr =>
    cases rr
    cases r
    obtain ⟨its, rv, p', hz⟩ := I1.tuple hq
    refine call_enum1 (begins_tuple a its.toArray) (show s1.heap.IsTuple a its.toArray from p') fun h' he hit hk => wpAny_pyIter_enum he ?_
    refine ⟨s1.heap.objs.size + 1, [s1.heap.objs.size + 1, s1.heap.objs.size], _, _, H1, rfl, I1.kept (t' := s1.toks) hk, turn_enumT a _ _, ⟨⟨.none, he⟩, ⟨_, hit, rfl, rfl⟩, Nat.succ_ne_self _⟩, fun b hb => ?_, q⟩
    have hle : s1.heap.objs.size ≤ b := by
      rcases List.mem_cons.mp hb with z | z
      · rw [z]
        exact Nat.le_add_right _ 1
      · rw [List.mem_singleton.mp z]
        exact Nat.le_refl _
    exact I1.fpOk hle (I1.hok.fresh hle)
theorem walk_enumT {K : PySem.W.Frag} {a : Addr} {xs : List V} : Walk (IteT K a) xs.length (fun H => SqT K H a xs) (YPair (fun i => some (.int (i : Nat))) (fun i => xs[i]?)) :=
  ⟨fun i _ hi q => ⟨xs, xs[i], q, by simp [hi]⟩, fun _ q => ⟨xs, q, Nat.le_refl _⟩, fun i H v H' _ q ⟨T, x, h1, h2, h3, h4⟩ => ⟨T, .int (i : Nat), x, h1, h2, h3, rfl, h4 xs q⟩⟩
end Sz
namespace Sz
open PySem PySem.Spec PyProof.Rows L2
/-! ### ranges of integers of any size -/
theorem turn_long {P : Program} {w : World} {K : PySem.W.Frag} {tg : Expr} (it : Addr) (lo : Int) (n : Nat) :
    Turn P w K tg (Itr lo n) [it] it (fun i h => IsLongIter h it (lo + (i : Nat) * 1) ((n : Int) - (i : Nat)) 1) := by
  have fpit : ∀ {X : Cx} {pins : List (Addr × Obj)} {σ : L2.St} {H : Hp} {s : Shared} {h' : Heap} {tk : Nat}, Inv X pins σ H s → FpOk X pins H it → (∀ b o, b ≠ it → s.heap.get? b = some o → h'.get? b = some o) → Inv X pins σ H { s with heap := h', toks := tk } := fun I f k => by
    obtain ⟨g0, g1, _, g3, g4, g5⟩ := f
    exact I.turned k g0 g1 g3 g4 g5
  constructor
  · exact List.mem_singleton_self it
  · intro i h z b hb
    cases List.mem_singleton.mp hb
    refine ⟨_, z, fun v y => ?_⟩
    have y' : Data.fields _ = Data.cell v := y
    cases y'
  · exact fun i h h' z keep => keep it (List.mem_singleton_self it) _ z
  · intro X e1 e2 e3 calm i pins s σ H E I fp z go
    subst e1 e2 e3
    have wk := Walks.longrange (prog := X.prog) (w := X.w) (I.ok.hd calm) it lo 1 n
    refine wk.item i s _ _ go z ?_
    rintro v h' tk ⟨t, rfl⟩ z' kp
    have J := fpit (tk := tk) I (fp it (List.mem_singleton_self it)) fun b o hb e => kp b o (by simpa using hb) e
    refine ⟨_, rfl, go_of (s := { s with heap := h', toks := tk }) (n := "longrange_iterator") z' rfl rfl (by decide) ?_⟩
    exact ⟨.int (lo + i), H, J, ⟨t, by rw [Int.mul_one]⟩, ⟨rfl, rfl⟩, z', fun b hb => (fp b hb).1⟩
  · intro X e1 e2 e3 calm i pins s σ H E I fp z stop
    subst e1 e2 e3
    refine wpAny_pyNext_long_end (I.ok.hd calm) z (by have : n ≤ i := stop; omega) fun h' eb => ⟨rfl, ?_⟩
    exact fpit (tk := s.toks) I (fp it (List.mem_singleton_self it)) eb
  · exact fun A i s Q E z h => wpAny_pyIter_longiter z h
section
variable {X : Cx} {tg : Expr}
theorem range_any {pins : List (Addr × Obj)} {σ : L2.St} {H : Hp} {s : Shared} {R : It → Hp → Prop} {E : Value → Shared → Prop} {lo hi : Int} {t u v : Tok} {tk : Nat} (I : Inv X pins σ H s)
    (q : R (Itr lo (hi - lo).toNat) H) : wpAny (model X.prog X.w) X.A (pyIter (.ref s.heap.objs.size)) (PIE X pins σ tg R) E { s with heap := s.heap.push { cls := .type "range", data := .fields #[.int lo t, .int hi u, .int 1 v] }, toks := tk } := by
  generalize hr : s.heap.push { cls := .type "range", data := .fields #[.int lo t, .int hi u, .int 1 v] } = hp
  have J : Inv X pins σ H { s with heap := hp, toks := tk } := by
    rw [← hr]
    exact I.kept fun b o e => Heap.get?_push_of_some _ e
  have fresh : ∀ b ∈ [hp.objs.size], FpOk X pins H b := fun b hb => by
    cases List.mem_singleton.mp hb
    exact J.fpOk (Nat.le_refl _) (J.hok.fresh (Nat.le_refl _))
  have ir : IsRange hp s.heap.objs.size lo hi 1 t u v := by
    rw [← hr]
    exact IsRange.new ..
  have x0 : lo + ((0 : Nat) : Int) * 1 = lo := by simp
  have n0 : (((hi - lo).toNat : Nat) : Int) - ((0 : Nat) : Int) = Builtin.Range.rangeSize lo hi 1 := by
    rw [rangeSize_one]
    split <;> omega
  cases sm : Builtin.Range.small lo hi 1 with
  | true =>
    refine wpAny_pyIter_range ir sm ?_
    refine ⟨hp.objs.size, [hp.objs.size], _, _, H, rfl, J.kept (t' := tk) fun b o e => Heap.get?_push_of_some _ e, turn_range _ lo (hi - lo).toNat, ?_, fresh, q⟩
    show IsRangeIter _ _ (lo + ((0 : Nat) : Int) * 1) ((((hi - lo).toNat : Nat) : Int) - ((0 : Nat) : Int)) 1
    rw [x0, n0]
    exact Heap.get?_push_size hp rfl
  | false =>
    refine wpAny_pyIter_longrange ir sm ?_
    refine ⟨hp.objs.size, [hp.objs.size], _, _, H, rfl, J.kept (t' := tk) fun b o e => Heap.get?_push_of_some _ e, turn_long _ lo (hi - lo).toNat, ?_, fresh, q⟩
    show IsLongIter _ _ (lo + ((0 : Nat) : Int) * 1) ((((hi - lo).toNat : Nat) : Int) - ((0 : Nat) : Int)) 1
    rw [x0, n0]
    exact Heap.get?_push_size hp rfl
def iRngA (ta : TA) : TI := fun σ H R => ta σ H fun vs H1 => ∃ i j : Int, vs = [.int i, .int j] ∧ R (Itr i (j - i).toNat) H1
theorem pi_range2A {a b : Expr} {ta : TA} {p pos : Pos} (hg : Gl X "range") (hm : X.mg "range" = none) (ha : PA X [a, b] ta) (s1 : starEach [a, b] X.env = [(false, eval a X.env), (false, eval b X.env)] := by rfl) (s2 : starEach [b] X.env = [(false, eval b X.env)] := by rfl) :
    PI X tg (.Call (.Name "range" p) [a, b] [] pos) (iRngA ta) := by
  constructor
  intro pins s σ H R I h
  refine Call_ (ld_blt I hg hm boot_range (PyProof.Rows.callWith_type1 (thn (ha.run pos pins s σ H _ I h) ?_) (by rw [s1, s2]) (by rw [s2]; rfl)))
  rintro us sA ⟨vs, H1, I1, r1, i, j, rfl, q⟩
  obtain ⟨t, t', rfl⟩ := Vals.int2 r1
  exact call_range_2 (range_any I1 q)
end
end Sz
namespace Sz
open PySem PySem.Spec PyProof.Rows L2
/-! ### list(range(a, b)) of integers of any size -/
section
variable {prog : Program} {w : World} {A : Around} {E : Value → Shared → Prop} {s : Shared}
/-- L.extend(range(a, b)), L empty -/
theorem extend_long {R : Result → Shared → Prop} {r : Addr} {a b : Int} {t u v : Tok} {n : Nat} (calm : A.handled = none) (ir : IsRange s.heap r a b 1 t u v) (big : Builtin.Range.small a b 1 = false) (size : Builtin.Range.rangeSize a b 1 = n) (few : n ≤ 2 ^ 24)
    (L : Addr) (out : Value) (c : Nat) (hL : s.heap.get? L = some { cls := .type "list", data := .seq #[] c })
    (goal : ∀ h' tk its c', (∀ x o, x ≠ L → s.heap.get? x = some o → h'.get? x = some o) → h'.get? L = some { cls := .type "list", dict := none, data := .seq its c', slots := #[] } → ItemsOf (fun i z => ∃ y, z = .int (a + i * 1) y) its n →
      R (.ok (.ret out)) { s with heap := h', toks := tk }) :
    wpAny (model prog w) A.in1 (Builtin.List.listExtendWith (.ref L) (.ref r) out) (fun fin s' => match fin with
      | .done f => R (.ok f) s'
      | .again c' => c'.quiet = true ∧ codeAny (model prog w) A c' R s') (fun e s' => R (.error e) s') s := by
  have ne1 : L ≠ r := by
    rintro rfl
    rw [ir] at hL
    simp at hL
  have ne2 : L ≠ s.heap.objs.size := Nat.ne_of_lt (Heap.lt_size hL)
  have wk := (Walks.longrange (prog := prog) (w := w) (A := A.in1) calm s.heap.objs.size a 1 n).toS
  have loop : ∀ (h : Heap) (c1 tk : Nat), IsLongIter h s.heap.objs.size (a + ((0 : Nat) : Int) * 1) ((n : Int) - ((0 : Nat) : Int)) 1 → (∀ x o, x ≠ L → s.heap.get? x = some o → h.get? x = some o) → h.get? L = some { cls := .type "list", data := .seq #[] c1 } →
      codeAny (model prog w) A (.builtin "list.extend.loop" ⟨[.ref L, .ref s.heap.objs.size, out], []⟩) R { s with heap := h, toks := tk } := fun h c1 tk z kp hl => by
    refine codeAny_extend_loopS wk (by rw [sizeLine_eq]; omega) L (fun m => ne2 (List.mem_singleton.mp m)) out n 0 _ #[] c1 rfl (Nat.zero_le _) z hl (ItemsOf.nil _) ?_
    intro s' its c' mv hl' hi
    rw [Moved.eq_with mv]
    refine goal s'.heap s'.toks its c' (fun x o hx e => mv.heap x o (fun m => ?_) (kp x o hx e)) hl' hi
    cases List.mem_cons.mp m with
    | inl q => exact hx q
    | inr q =>
      have q1 := List.mem_singleton.mp q
      rw [q1] at e
      exact absurd (Heap.lt_size e) (Nat.lt_irrefl _)
  unfold Builtin.List.listExtendWith
  refine wpAny_bind (wpAny_typeOf (T := "range") ⟨_, ir, rfl⟩ ?_)
  have f1 : Builtin.List.listSameRef (.ref L) (.ref r) = false := by
    simp [Builtin.List.listSameRef, ne1]
  have f2 : (Value.type "range" == Value.type "list") = false := by decide
  have f3 : (Value.type "range" == Value.type "tuple") = false := by decide
  simp only [f1, f2, f3, Bool.or_false, Bool.false_eq_true, if_false]
  refine wpAny_bind (wpAny_pyIter_longrange ir big (wpAny_bind (wpAny_holding (wpAny_hint_range (n := n) (Heap.get?_push_of_some _ ir) size few ?_))))
  generalize hg : s.heap.push { cls := .type "longrange_iterator", data := .fields #[rawInt a, rawInt (Builtin.Range.rangeSize a b 1), rawInt 1] } = g
  have gi : IsLongIter g s.heap.objs.size (a + ((0 : Nat) : Int) * 1) ((n : Int) - ((0 : Nat) : Int)) 1 := by
    have x0 : a + ((0 : Nat) : Int) * 1 = a := by simp
    have x1 : (n : Int) - ((0 : Nat) : Int) = Builtin.Range.rangeSize a b 1 := by rw [size]; simp
    rw [x0, x1, ← hg]
    exact Heap.get?_push_size _ rfl
  have gk : ∀ x o, s.heap.get? x = some o → g.get? x = some o := fun x o e => by
    rw [← hg]
    exact Heap.get?_push_of_some _ e
  have gL := gk L _ hL
  refine wpAny_ite_split (fun _ => ?_) fun _ => wpAny_pure ⟨plainId_quiet F.plain_extend_loop _, loop _ c _ gi (fun x o _ e => gk x o e) gL⟩
  refine wpAny_bind (wpAny_rule (wpAny_bind ?_))
  show wpAny _ _ (updateSeq L (·.push .none) >>= fun _ => updateSeq L (·.pop)) _ _ _
  refine wpAny_bind (wpAny_updateSeq gL rfl ?_)
  have m1 := Heap.get?_update_self (Obj.mapSeq (·.push Value.none)) gL rfl
  refine wpAny_updateSeq (hz := by seq_fits) m1 rfl (wpAny_pure ⟨plainId_quiet F.plain_extend_loop _, loop _ _ _ ?_ (fun x o hx e => ?_) (Heap.get?_update_self (Obj.mapSeq (·.pop)) m1 rfl)⟩)
  · exact (Heap.get?_update_other _ _ ne2).trans ((Heap.get?_update_other _ _ ne2).trans gi)
  · exact (Heap.get?_update_other _ _ (Ne.symm hx)).trans ((Heap.get?_update_other _ _ (Ne.symm hx)).trans (gk x o e))
theorem call_list_long {Q : Value → Shared → Prop} {r : Addr} {a b : Int} {t u v : Tok} {n : Nat} (calm : A.handled = none) (ir : IsRange s.heap r a b 1 t u v) (big : Builtin.Range.small a b 1 = false) (size : Builtin.Range.rangeSize a b 1 = n) (few : n ≤ 2 ^ 24)
    (goal : ∀ h' tk its c', (∀ x o, s.heap.get? x = some o → h'.get? x = some o) → h'.get? s.heap.objs.size = some { cls := .type "list", dict := none, data := .seq its c', slots := #[] } → ItemsOf (fun i z => ∃ y, z = .int (a + i * 1) y) its n →
      Q (.ref s.heap.objs.size) { s with heap := h', toks := tk }) : wpAny (model prog w) A (call (.type "list") [.ref r]) Q E s := by
  refine callType_codes (Q₁ := fun obj s1 => obj = .ref s.heap.objs.size ∧ s1 = { s with heap := s.heap.push { cls := .type "list", data := .seq #[] } }) F.called_list (F.typeCall_list_1 _) F.entry_list_init (code_list_new _ ⟨rfl, rfl⟩) ?_
  rintro _ _ ⟨rfl, rfl⟩
  generalize hg : s.heap.push { cls := .type "list", data := .seq #[] } = g
  have gk : ∀ x o, s.heap.get? x = some o → g.get? x = some o := fun x o e => by
    rw [← hg]
    exact Heap.get?_push_of_some _ e
  have gL : g.get? s.heap.objs.size = some { cls := .type "list", data := .seq #[] } := by
    rw [← hg]
    exact Heap.get?_push_size _ rfl
  have lt : ∀ x o, s.heap.get? x = some o → x ≠ s.heap.objs.size := fun x o e => Nat.ne_of_lt (Heap.lt_size e)
  generalize hS : s.heap.objs.size = L at gL goal lt
  have nr : r ≠ L := lt r _ ir
  refine ⟨⟨_, gL, rfl⟩, F.args_list_init_2 _ _, ?_⟩
  show wpAny _ _ (do let old ← Builtin.List.listItems (.ref L); Builtin.List.listUpdate (.ref L) (fun _ => #[]); letGo old.toList.reverse; Builtin.List.listExtendWith (.ref L) (.ref r) .none) _ _ _
  unfold Builtin.List.listItems
  refine wpAny_bind (wpAny_bind (wpAny_seqItems gL rfl (wpAny_pure ?_)))
  show wpAny _ _ (updateSeq L (fun _ => #[]) >>= fun _ => letGo (#[] : Array Value).toList.reverse >>= fun _ => Builtin.List.listExtendWith (.ref L) (.ref r) .none) _ _ _
  refine wpAny_bind (wpAny_updateSeq gL rfl (wpAny_bind (wpAny_letGo ?_)))
  have ot : ∀ x o, x ≠ L → g.get? x = some o → (g.update L (Obj.mapSeq (fun _ => (#[] : Array Value)))).get? x = some o := fun x o hx e => (Heap.get?_update_other _ _ (Ne.symm hx)).trans e
  refine extend_long (A := A.in1) calm (ot r _ nr (gk r _ ir)) big size few L .none _ (Heap.get?_update_self (Obj.mapSeq (fun _ => (#[] : Array Value))) gL rfl) fun h' tk its c' kp hl' hi => ?_
  exact ⟨rfl, goal h' tk its c' (fun x o e => kp x o (lt x o e) (ot x o (lt x o e) (gk x o e))) hl' hi⟩
end
section
variable {X : Cx} {e : Expr} {te : L2.St → Hp → (Int → Int → Hp → Prop) → Prop}
def tLstA (te : L2.St → Hp → (Int → Int → Hp → Prop) → Prop) : TE := fun σ H Q => te σ H fun a b H1 => (b - a).toNat ≤ 1000000 ∧ ∀ q, H1 q = none → Q (.ref q) (upd H1 q (.lst (rgV a b)))
/-- list(range(..)) -/
theorem pe_listA {p pos : Pos} (hc : X.calm = true) (hg : Gl X "list") (hm : X.mg "list" = none) (he : PRg X e te) (na : starEach [e] X.env = (false, eval e X.env) :: starEach [] X.env := by rfl) : PE X (.Call (.Name "list" p) [e] [] pos) (tLstA te) := by
  constructor
  intro pins s σ H Q I h
  refine Call_ (ld_blt I hg hm boot_list (PyProof.Rows.callWith_type1 (args_cons (thn (he pins s σ H _ I h) ?_) na) na))
  rintro _ s1 ⟨r, a, b, t, u, v, H1, rfl, ir, J, few, q⟩
  refine args_nil ?_
  have few2 : (b - a).toNat ≤ 2 ^ 24 := Nat.le_trans few (by decide)
  have fin : ∀ h' tk its c', (∀ x o, s1.heap.get? x = some o → h'.get? x = some o) → h'.get? s1.heap.objs.size = some { cls := .type "list", dict := none, data := .seq its c', slots := #[] } → ItemsOf (fun i z => ∃ y, z = .int (a + i * 1) y) its (b - a).toNat →
      EP X pins σ Q (.ref s1.heap.objs.size) { s1 with heap := h', toks := tk } := fun h' tk its c' kp at_ hi => by
    refine ⟨.ref s1.heap.objs.size, upd H1 s1.heap.objs.size (.lst (rgV a b)), J.laid kp (Nat.le_refl _) ?_, rfl, q _ (J.hok.fresh (Nat.le_refl _))⟩
    refine (show ObjOk X.prog X.w _ _ _ (.lst (rgV a b)) from ⟨?_, its.toList, c', vals_rg hi, ?_⟩)
    · rw [rgV_length, sizeLine_eq]
      omega
    · rw [Array.toArray_toList]
      exact at_
  cases sm : Builtin.Range.small a b 1 with
  | true => exact call_list_range (J.ok.hd hc) ir sm (rangeSize_nat a b) few2 fin
  | false => exact call_list_long (J.ok.hd hc) ir sm (rangeSize_nat a b) few2 fin
end
end Sz
/-! x + y by an own __add__ -/
namespace Sz
open PySem PySem.Spec PyProof.Rows L2
/-- what the two classes must have: C its own def, D none, both stand under object alone -/
structure AddK (K : PySem.W.Frag) (C D f : Addr) : Prop where
  ne : C ≠ D
  c1 : ∃ cd, PySem.W.clsIn K C = some cd ∧ cd.mro = [.ref C, .type "object"]
  c2 : ∃ cd, PySem.W.clsIn K D = some cd ∧ cd.mro = [.ref D, .type "object"]
  at_ : PySem.W.findIn K (.ref C) "__add__" = some (some (.ref f))
  fn : PySem.W.isFn K (.ref f) = true
  n1 : PySem.W.findIn K (.ref D) "__add__" = some none
  n2 : PySem.W.findIn K (.ref D) "__radd__" = some none
def mroB (K : PySem.W.Frag) (C : Addr) : Bool := match PySem.W.clsIn K C with
  | some cd => decide (cd.mro = [.ref C, .type "object"])
  | none => false
def addB (K : PySem.W.Frag) (C D : Str) : Bool := decide (He.ga K C ≠ He.ga K D) && (mroB K (He.ga K C) && (mroB K (He.ga K D) && (He.eqO (PySem.W.findIn K (.ref (He.ga K C)) "__add__") (some (some (.ref (He.ma K (He.ga K C) "__add__")))) &&
  (PySem.W.isFn K (.ref (He.ma K (He.ga K C) "__add__")) && (He.eqO (PySem.W.findIn K (.ref (He.ga K D)) "__add__") (some none) && He.eqO (PySem.W.findIn K (.ref (He.ga K D)) "__radd__") (some none))))))
theorem mroB_ok {K : PySem.W.Frag} {C : Addr} (h : mroB K C = true) : ∃ cd, PySem.W.clsIn K C = some cd ∧ cd.mro = [.ref C, .type "object"] := by
  unfold mroB at h
  cases e : PySem.W.clsIn K C with
  | none =>
    rw [e] at h
    cases h
  | some cd =>
    rw [e] at h
    exact ⟨cd, rfl, of_decide_eq_true h⟩
theorem addB_ok {K : PySem.W.Frag} {C D : Str} (h : addB K C D = true) : AddK K (He.ga K C) (He.ga K D) (He.ma K (He.ga K C) "__add__") := by
  obtain ⟨h1, h⟩ := He.ba h
  obtain ⟨h2, h⟩ := He.ba h
  obtain ⟨h3, h⟩ := He.ba h
  obtain ⟨h4, h⟩ := He.ba h
  obtain ⟨h5, h⟩ := He.ba h
  obtain ⟨h6, h7⟩ := He.ba h
  exact ⟨of_decide_eq_true h1, mroB_ok h2, mroB_ok h3, He.eqO_ok h4, h5, He.eqO_ok h6, He.eqO_ok h7⟩
section
variable {K : PySem.W.Frag} {M : Model} {h : Heap} {C D f : Addr}
theorem fills_own (X : K.In h) (a : AddK K C D f) : PySem.W.Looks M h (fillsNumberSlot (.ref C) "add") true := by
  obtain ⟨cd, e1, e2⟩ := a.c1
  have L1 : PySem.W.Looks M h (mroOf (.ref C)) cd.mro := (PySem.W.looks_clsIn X e1).andThen .now
  have L2 : PySem.W.Looks M h (typeLookup (.ref C) "__add__") (some (.ref f)) := PySem.W.looks_findIn X a.at_
  unfold fillsNumberSlot
  refine PySem.W.Looks.andThen L1 ?_
  rw [e2]
  simp only [List.anyM]
  refine PySem.W.Looks.andThen (a := true) ?_ .now
  refine PySem.W.Looks.andThen (a := true) (PySem.W.Looks.andThen L2 ?_) .now
  exact .now
theorem fills_none (X : K.In h) (a : AddK K C D f) : PySem.W.Looks M h (fillsNumberSlot (.ref D) "add") false := by
  obtain ⟨cd, e1, e2⟩ := a.c2
  have L1 : PySem.W.Looks M h (mroOf (.ref D)) cd.mro := (PySem.W.looks_clsIn X e1).andThen .now
  have L2 : PySem.W.Looks M h (typeLookup (.ref D) "__add__") none := PySem.W.looks_findIn X a.n1
  have L3 : PySem.W.Looks M h (typeLookup (.ref D) "__radd__") none := PySem.W.looks_findIn X a.n2
  have L4 : PySem.W.Looks M h (typeLookup (.type "object") "__add__") none := .of_pure (by rw [typeLookup_type, builtinLookup_eq_fast]; kernel_rfl)
  have L5 : PySem.W.Looks M h (typeLookup (.type "object") "__radd__") none := .of_pure (by rw [typeLookup_type, builtinLookup_eq_fast]; kernel_rfl)
  unfold fillsNumberSlot
  refine PySem.W.Looks.andThen L1 ?_
  rw [e2]
  simp only [List.anyM]
  refine PySem.W.Looks.andThen (a := false) ?_ ?_
  · refine PySem.W.Looks.andThen (a := false) (PySem.W.Looks.andThen L2 .now) ?_
    exact PySem.W.Looks.andThen (a := false) (PySem.W.Looks.andThen L3 .now) .now
  · refine PySem.W.Looks.andThen (a := false) ?_ .now
    exact PySem.W.Looks.andThen L4 (PySem.W.Looks.andThen L5 .now)
end
section
variable {X : Cx} {CX : CXT} {k : Nat} {C D : Str} {ps : List Str} {sp : Sp} {E : XK}
/-- x + y: x an instance of C with its own __add__, y one of D with none -/
theorem op_addO (a : AddK X.K (He.ga X.K C) (He.ga X.K D) (He.ma X.K (He.ga X.K C) "__add__")) (G : PromM X.prog X.w X.K X.mg X.base CX k C "__add__" ps sp) (hr : Room k X.A) (hx : Passes CX X E) :
    OpR X (binaryOp .Add) (fun x y H Q => ∃ p q dx fs dy gs, x = .ref p ∧ y = .ref q ∧ H p = some (.ins (He.ga X.K C) dx fs) ∧ H q = some (.ins (He.ga X.K D) dy gs) ∧ sp [.ref p, .ref q] H Q E) := by
  intro pins s σ H x y v u Q I rx ry h
  obtain ⟨p, q, dx, fs, dy, gs, rfl, rfl, hp, hq, h⟩ := h
  obtain rfl : v = Value.ref p := rx
  obtain rfl : u = Value.ref q := ry
  obtain ⟨m1, O1, _⟩ := ins_get I.hok hp
  obtain ⟨od1, J1, _⟩ := O1.look
  obtain ⟨m2, O2, _⟩ := ins_get I.hok hq
  obtain ⟨od2, J2, _⟩ := O2.look
  obtain ⟨fd, F, b⟩ := G.ex
  have ne : (Value.ref (He.ga X.K C) == Value.ref (He.ga X.K D)) = false := by
    rw [beq_eq_false_iff_ne]
    exact fun z => a.ne (by injection z)
  unfold binaryOp
  refine wpAny_holding ?_
  show wpAny _ _ (binaryOp1 "add" (.ref p) (.ref q) >>= _) _ _ s
  refine wpAny_bind ?_
  unfold binaryOp1
  refine wpAny_bind (J1.type.here (wpAny_bind (J2.type.here (wpAny_bind ((fills_own I.kIn a).here ?_)))))
  rw [ne]
  refine wpAny_bind ((fills_none I.kIn a).here ?_)
  simp only [Bool.and_false, Bool.false_and, Bool.false_eq_true, if_false, if_true]
  refine wpAny_bind (wpAny_pure ?_)
  simp only [Bool.false_eq_true, if_false]
  unfold tryMethod callSpecial? specialOf
  refine wpAny_bind (wpAny_bind (wpAny_bind (wpAny_bind (J1.type.here ((PySem.W.looks_findIn I.kIn a.at_).here ?_)))))
  refine wpAny_holding (wpAny_bind ((PySem.W.bind_fn I.kIn (.ref p) (beq_iff_eq.mp a.fn)).here ?_))
  refine wpAny_bind (thn (run_fn (us := [.ref p, .ref q]) (vs := [.ref p, .ref q]) F hr b .nil hx I (.cons rfl (.cons rfl .nil)) h) fun v s' hv => wpAny_pure ?_)
  have fin : wpAny (model X.prog X.w) X.A (pure (some v) : Sem (Option Value)) (fun r s2 => wpAny (model X.prog X.w) X.A (match r with
      | some v => pure v
      | _ => do
        let ty ← typeOf (Value.ref p)
        let sl ← seqSlot? ty (Str.ofString "__add__")
        match sl with
          | some f => do
            rule "binop.sequence-concat"
            call f [Value.ref p, Value.ref q]
          | _ => binopTypeError "+" (Value.ref p) (Value.ref q)) (EP X pins σ Q) X.xe s2) X.xe s' := wpAny_pure (wpAny_pure hv)
  obtain ⟨x, H', I', r, q'⟩ := hv
  cases x with
  | non => cases (show v = Value.none from r); exact wpAny_pure fin
  | bl c => cases (show v = Value.bool c from r); exact wpAny_pure fin
  | int i => obtain ⟨t, rfl⟩ := (show ∃ t, v = Value.int i t from r); exact wpAny_pure fin
  | str i => obtain ⟨t, rfl⟩ := (show ∃ t, v = Value.str i t from r); exact wpAny_pure fin
  | byt i => obtain ⟨t, rfl⟩ := (show ∃ t, v = Value.bytes i t from r); exact wpAny_pure fin
  | flt i => obtain ⟨t, rfl⟩ := (show ∃ t, v = Value.float i t from r); exact wpAny_pure fin
  | ref a => cases (show v = Value.ref a from r); exact wpAny_pure fin
  | ty n => cases (show v = Value.type n from r); exact wpAny_pure fin
end
end Sz
/-! texts: what is joined, and its repr -/
namespace Sz
open PySem PySem.Spec PyProof.Rows L2
def Signs (x : Str) : Prop := ∀ c ∈ x.cps.toList, c < 16 ^ 8
theorem signs_of (s : String) : Signs (Str.ofString s) := fun c hc => by
  rw [Str.ofString_eq_toList] at hc
  have hc : c ∈ s.toList.map Char.toNat := by simpa using hc
  obtain ⟨d, _, rfl⟩ := List.mem_map.mp hc
  have h := d.valid
  have h2 : d.toNat < 1114112 := by
    rcases h with h | h
    · exact Nat.lt_trans h (by decide)
    · exact h.2
  exact Nat.lt_of_lt_of_le h2 (by decide)
theorem joinL_mem {sep : List Nat} {c : Nat} : ∀ {l : List (List Nat)}, c ∈ TL.joinL sep l → c ∈ sep ∨ ∃ y ∈ l, c ∈ y
  | [], h => by simp [TL.joinL] at h
  | [p], h => .inr ⟨p, by simp, h⟩
  | p :: q :: r, h => by
    rcases List.mem_append.mp (show c ∈ p ++ (sep ++ TL.joinL sep (q :: r)) from h) with h | h
    · exact .inr ⟨p, by simp, h⟩
    · rcases List.mem_append.mp h with h | h
      · exact .inl h
      · rcases joinL_mem h with h | ⟨y, hy, hc⟩
        · exact .inl h
        · exact .inr ⟨y, List.mem_cons_of_mem _ hy, hc⟩
theorem joinL_len {sep : List Nat} : ∀ {l : List (List Nat)}, (TL.joinL sep l).length ≤ (l.map (·.length)).sum + l.length * sep.length
  | [] => by simp [TL.joinL]
  | [p] => by simp [TL.joinL]
  | p :: q :: r => by
    have ih := joinL_len (sep := sep) (l := q :: r)
    show (p ++ (sep ++ TL.joinL sep (q :: r))).length ≤ _
    rw [List.length_append, List.length_append]
    simp only [List.map_cons, List.sum_cons, List.length_cons, Nat.add_mul, Nat.one_mul] at ih ⊢
    omega
theorem join_signs {sep : Str} {ys : List Str} (h : Signs sep) (h2 : ∀ y ∈ ys, Signs y) : Signs (Txt.join sep ys) := fun c hc => by
  rw [TL.join_eq] at hc
  have hc : c ∈ TL.tl (Str.join sep ys) := hc
  rw [TL.tl_join] at hc
  rcases joinL_mem hc with z | ⟨y, hy, z⟩
  · exact h c z
  · obtain ⟨y', hy', rfl⟩ := List.mem_map.mp hy
    exact h2 y' hy' c z
theorem join_len {sep : Str} {ys : List Str} : (Txt.join sep ys).length ≤ (ys.map (·.length)).sum + ys.length * sep.length := by
  have e : ∀ x : Str, x.length = (TL.tl x).length := fun x => by
    show x.cps.size = x.cps.toList.length
    simp
  rw [TL.join_eq, e, TL.tl_join]
  have := joinL_len (sep := TL.tl sep) (l := ys.map TL.tl)
  rw [List.map_map, List.length_map] at this
  have e2 : ys.map ((·.length) ∘ TL.tl) = ys.map (·.length) := by
    apply List.map_congr_left
    intro y _
    exact (e y).symm
  rw [e2] at this
  rw [e sep]
  exact this
theorem repr_fits {x : Str} (h : Signs x) (hl : x.length ≤ 100000) : (reprText x).length ≤ sizeLine := by
  have := PySem.StrLaws.reprText_len x h
  rw [sizeLine_eq]
  omega
/-- repr of a text -/
theorem cr_reprS {X : Cx} : CallR X (.builtin "repr") (fun xs H Q => ∃ y : Str, xs = [.str y] ∧ (reprText y).length ≤ sizeLine ∧ Q (.str (reprText y)) H) := by
  intro pins s σ H xs us Q I r h
  obtain ⟨y, rfl, hz, q⟩ := h
  obtain ⟨u, rfl, ru⟩ := vals1 r
  obtain ⟨t, rfl⟩ := (show ∃ t, u = Value.str y t from ru)
  exact PySem.P.repr_of_str ⟨.str _, H, I.tok _, ⟨_, rfl⟩, q⟩ hz
end Sz
/-! len(x) by an own __len__ -/
namespace Sz
open PySem PySem.Spec PyProof.Rows L2
section
variable {X : Cx} {CX : CXT} {k : Nat} {C : Str} {ps : List Str} {sp : Sp} {E : XK}
theorem cr_lenO (G : PromM X.prog X.w X.K X.mg X.base CX k C "__len__" ps sp) (hr : Room (k + 1) X.A) (hx : Passes CX X E) :
    CallR X (.builtin "len") (fun xs H Q => ∃ p dx fs, xs = [.ref p] ∧ H p = some (.ins (He.ga X.K C) dx fs) ∧ sp [.ref p] H (fun v H' => ∃ n : Int, v = .int n ∧ 0 ≤ n ∧ n < 2 ^ 63 ∧ Q (.int n) H') E) := by
  intro pins s σ H xs us Q I r h
  obtain ⟨p, dx, fs, rfl, hp, h⟩ := h
  obtain ⟨u, rfl, ru⟩ := vals1 r
  obtain rfl : u = Value.ref p := ru
  obtain ⟨m1, O1, _⟩ := ins_get I.hok hp
  obtain ⟨od1, J1, _⟩ := O1.look
  obtain ⟨fd, F, b⟩ := G.ex
  have hl : ([Value.ref p] ++ ([] : List Value)).length = ps.length := by
    have := F.len _ _ _ _ h
    simpa using this
  refine Calls.call_function_entry kind_len plain_len entry_len (args_len1 _) ?_
  unfold Builtin.«len»
  refine wpAny_bind (m := oneArg "len" _) (wpAny_pure ?_)
  refine wpAny_bind (m := callSpecial? (.ref p) (Str.ofString "__len__")) ?_
  unfold callSpecial? specialOf
  refine wpAny_bind (wpAny_bind (J1.type.here ((PySem.W.looks_findIn I.kIn G.me.at_).here ?_)))
  refine wpAny_holding (wpAny_bind ((PySem.W.bind_fn I.kIn (.ref p) (beq_iff_eq.mp G.me.fn)).here (wpAny_bind ?_)))
  have vv : Vals [V.ref p] [Value.ref p] := .cons rfl .nil
  have bb : BindsTo s fd ⟨[Value.ref p], []⟩ (ps.zip [Value.ref p]) := b s [Value.ref p] I.kIn hl
  refine wpAny_call (codeAny_mono (F.run X.A.in1 X.stack s H ⟨[Value.ref p], []⟩ [Value.ref p] [V.ref p] _ E hr.in1 I.env0.in1 bb vv h) fun rr s' hq => ?_)
  cases rr with
  | error e => exact hx pins σ H s e s' I hq
  | ok fl =>
    cases fl with
    | ret v =>
      obtain ⟨v', H', I', rv, n, rfl, n0, n1, q⟩ := I.after hq
      obtain ⟨t, rfl⟩ := (show ∃ t, v = Value.int n t from rv)
      refine wpAny_pure ?_
      refine wpAny_bind (wpAny_holding (wpAny_pure ?_))
      refine wpAny_bind (wpAny_letGo ?_)
      show wpAny _ _ (if n < 0 then _ else _) _ _ _
      rw [if_neg (by omega)]
      show wpAny _ _ (if n ≥ 2 ^ 63 then _ else _) _ _ _
      rw [if_neg (by omega)]
      exact wpAny_bind (wpAny_mkInt (wpAny_pure ⟨_, rfl, .int n, H', I'.tok _, ⟨_, rfl⟩, q⟩))
    | next => exact False.elim hq
    | brk => exact False.elim hq
    | cont => exact False.elim hq
end
end Sz
namespace Sz
/-! ### sizes rise with the length -/
theorem totF_lt {b n m : Int} (hb : 2 ≤ b) (hn : 0 ≤ n) (h : n < m) : totF b n < totF b m := by
  have s := (totF_is hb hn).tot
  have t := (totF_is (b := b) (n := m) hb (by omega)).tot
  by_cases c : totF b n < totF b m
  · exact c
  · have l := fig_lip hb (show totF b m ≤ totF b n by omega) t s
    omega
theorem totF_mono {b n m : Int} (hb : 2 ≤ b) (hn : 0 ≤ n) (h : n ≤ m) : totF b n ≤ totF b m := by
  by_cases c : n = m
  · rw [c]
    exact Int.le_refl _
  · exact Int.le_of_lt (totF_lt hb hn (by omega))
theorem beg_mono {n k m : Int} (hm : 1 ≤ m) (h : n ≤ k) : beg n m ≤ beg k m := Int.ediv_le_ediv (by omega) (by omega)
/-- n = m q + r -/
theorem beg_parts {n m : Int} (hm : 1 ≤ m) : beg n m = n / m + (if 0 < n % m then 1 else 0) := by
  unfold beg
  have e := Int.mul_ediv_add_emod n m
  have r0 := Int.emod_nonneg n (show m ≠ 0 by omega)
  have r1 := Int.emod_lt_of_pos n (show 0 < m by omega)
  split
  · have e2 : n + m - 1 = (n % m - 1) + m * (n / m + 1) := by rw [Int.mul_add, Int.mul_one]; omega
    rw [e2, Int.add_mul_ediv_left _ _ (by omega), Int.ediv_eq_zero_of_lt (by omega) (by omega)]
    omega
  · have e2 : n + m - 1 = (m - 1) + m * (n / m) := by omega
    rw [e2, Int.add_mul_ediv_left _ _ (by omega), Int.ediv_eq_zero_of_lt (by omega) (by omega)]
    omega
theorem pieces_step {b m c n : Int} (hb : 2 ≤ b) (h : (Wr.pieces m c).ok) (hn : 0 ≤ n) : (Wr.pieces m c).gr b n ≤ (Wr.pieces m c).gr b (n + 1) := by
  simp only [Wr.ok] at h
  simp only [Wr.gr]
  have r0 := Int.emod_nonneg n (show m ≠ 0 by omega)
  have r1 := Int.emod_lt_of_pos n (show 0 < m by omega)
  have e := Int.mul_ediv_add_emod n m
  by_cases z : n % m + 1 < m
  · have d : (n + 1) / m = n / m := by
      have e2 : n + 1 = (n % m + 1) + m * (n / m) := by omega
      rw [e2, Int.add_mul_ediv_left _ _ (by omega), Int.ediv_eq_zero_of_lt (by omega) z]
      have e3 : ((n % m + 1) + m * (n / m)) = n + 1 := by omega
      omega
    have r : (n + 1) % m = n % m + 1 := by
      have e3 := Int.mul_ediv_add_emod (n + 1) m
      rw [d] at e3
      omega
    rw [d, r, if_pos (show 0 < n % m + 1 by omega)]
    have f0 := figF_pos (b := b) (n := n % m + 1) hb
    have f1 := figF_mono (b := b) (n := n % m) (m := n % m + 1) hb (by omega)
    split <;> omega
  · have rm : n % m = m - 1 := by omega
    have e2 : n + 1 = 0 + m * (n / m + 1) := by rw [Int.mul_add, Int.mul_one]; omega
    have d : (n + 1) / m = n / m + 1 := by
      rw [e2, Int.add_mul_ediv_left _ _ (by omega), Int.zero_ediv]
      omega
    have r : (n + 1) % m = 0 := by
      have e3 := Int.mul_ediv_add_emod (n + 1) m
      rw [d, Int.mul_add, Int.mul_one] at e3
      omega
    rw [d, r, rm, if_neg (show ¬ (0 : Int) < 0 by omega), Int.add_mul, Int.one_mul]
    have f0 := figF_pos (b := b) (n := m) hb
    have f1 := figF_mono (b := b) (n := m - 1) (m := m) hb (by omega)
    split <;> omega
theorem step_le {f : Int → Int} (h : ∀ n, 0 ≤ n → f n ≤ f (n + 1)) {n : Int} (hn : 0 ≤ n) : ∀ k : Nat, f n ≤ f (n + k)
  | 0 => by simp
  | k + 1 => by
    have ih := step_le h hn k
    have := h (n + k) (by omega)
    have e : n + ((k + 1 : Nat) : Int) = n + k + 1 := by omega
    rw [e]
    omega
theorem gr_mono {b : Int} {a : Wr} (hb : 2 ≤ b) (h : a.ok) {n k : Int} (hn : 0 ≤ n) (hk : n ≤ k) : a.gr b n ≤ a.gr b k := by
  cases a with
  | plus c => simp only [Wr.gr]; omega
  | told c =>
    simp only [Wr.gr]
    have := figF_mono (b := b) hb hk
    omega
  | whole c =>
    simp only [Wr.ok] at h
    exact totF_mono hb (by omega) (by omega)
  | pieces m c =>
    have := step_le (f := (Wr.pieces m c).gr b) (fun n hn => pieces_step hb h hn) hn (k - n).toNat
    have e : n + ((k - n).toNat : Int) = k := by omega
    rw [e] at this
    exact this
  | cut m c =>
    simp only [Wr.ok] at h
    simp only [Wr.gr]
    have := Int.mul_le_mul_of_nonneg_right (beg_mono h.1 hk) (show 0 ≤ c by omega)
    omega
  | coded m c =>
    simp only [Wr.ok] at h
    exact Int.mul_le_mul_of_nonneg_right (beg_mono h.1 hk) (show 0 ≤ c by omega)
  | filled m =>
    simp only [Wr.ok] at h
    exact Int.mul_le_mul_of_nonneg_right (beg_mono h.1 hk) (show 0 ≤ m by omega)
/-- a size is no less than its length -/
theorem gr_ge {b : Int} {a : Wr} (hb : 2 ≤ b) (h : a.ok) {n : Int} (hn : 0 ≤ n) : n ≤ a.gr b n := by
  have bg : ∀ m : Int, 1 ≤ m → n ≤ beg n m * m := fun m hm => by
    have e := Int.mul_ediv_add_emod n m
    have r0 := Int.emod_nonneg n (show m ≠ 0 by omega)
    have r1 := Int.emod_lt_of_pos n (show 0 < m by omega)
    rw [beg_parts hm, Int.add_mul]
    have c := Int.mul_comm m (n / m)
    split
    · rw [Int.one_mul]
      omega
    · rw [Int.zero_mul]
      omega
  cases a with
  | plus c =>
    simp only [Wr.ok] at h
    simp only [Wr.gr]
    omega
  | told c =>
    simp only [Wr.ok] at h
    simp only [Wr.gr]
    have := figF_pos (b := b) (n := n) hb
    omega
  | whole c =>
    simp only [Wr.ok] at h
    simp only [Wr.gr]
    have := isTot_pos (totF_is (b := b) (n := n + c) hb (by omega)).tot
    omega
  | pieces m c =>
    simp only [Wr.ok] at h
    simp only [Wr.gr]
    have e := Int.mul_ediv_add_emod n m
    have r0 := Int.emod_nonneg n (show m ≠ 0 by omega)
    have q0 := Int.ediv_nonneg hn (show 0 ≤ m by omega)
    have f0 := figF_pos (b := b) (n := m) hb
    have f1 := figF_pos (b := b) (n := n % m) hb
    have p := Int.mul_le_mul_of_nonneg_left (show m ≤ m + c + figF b m by omega) q0
    have c := Int.mul_comm m (n / m)
    split <;> omega
  | cut m c =>
    simp only [Wr.ok] at h
    simp only [Wr.gr]
    have := Int.mul_nonneg (beg_le hn h.1).2 (show 0 ≤ c by omega)
    omega
  | coded m c =>
    simp only [Wr.ok] at h
    simp only [Wr.gr]
    have h1 := bg m h.1
    have := Int.mul_le_mul_of_nonneg_left (show m ≤ c by omega) (beg_le hn h.1).2
    omega
  | filled m =>
    simp only [Wr.ok] at h
    exact bg m h.1
end Sz
/-! data that can be shown and compared: how deep, how long the text -/
namespace Sz
open PySem PySem.Spec PyProof.Rows L2
/-- can be shown: at most so deep, at most so long -/
structure Sho (d : PyData) (k m : Nat) : Prop where
  able : d.showable = true
  nod : d.hasDict = false
  deep : d.depth ≤ k
  long : d.shown.length ≤ m
theorem Sho.mono {d : PyData} {k m k' m' : Nat} (h : Sho d k m) (hk : k ≤ k') (hm : m ≤ m') : Sho d k' m' := ⟨h.able, h.nod, Nat.le_trans h.deep hk, Nat.le_trans h.long hm⟩
theorem sho_int {i : Int} (k : Nat) (hk : 0 < k) (hk2 : k ≤ 500) (h : i.natAbs < 10 ^ k) : Sho (.int i) 0 (k + 1) := by
  refine ⟨?_, rfl, Nat.le_refl _, ?_⟩
  · have h2 : i.natAbs < 2 ^ 1800 := Nat.lt_of_lt_of_le h (Nat.le_trans (Nat.pow_le_pow_right (by decide) hk2) (by decide))
    show decide (i.natAbs.log2 < 1920) = true
    exact decide_eq_true (Nat.lt_of_lt_of_le (PySem.Flt.log2_lt_of (by decide) h2) (by decide))
  · have h1 := int_text_length_le10 hk h
    have e : (Str.ofString (toString i)).length = (toString i : String).length := PySem.ofString_length _
    show (Str.ofString (toString i)).length ≤ k + 1
    omega
theorem sho_bool (b : Bool) : Sho (.bool b) 0 5 := by cases b <;> exact ⟨rfl, rfl, Nat.le_refl _, by decide⟩
theorem sho_none : Sho .none 0 4 := ⟨rfl, rfl, Nat.le_refl _, by decide⟩
theorem sho_all {k m : Nat} : ∀ ds : List PyData, (∀ d ∈ ds, Sho d k m) → PyData.showableAll ds = true ∧ PyData.hasDictAll ds = false ∧ PyData.depthAll ds ≤ k ∧ ((PyData.shownAll ds).map (·.length)).sum ≤ m * ds.length ∧ (PyData.shownAll ds).length = ds.length
  | [], _ => ⟨rfl, rfl, Nat.zero_le _, by simp [PyData.shownAll], rfl⟩
  | d :: ds, h => by
    obtain ⟨h1, h2, h3, h4, h5⟩ := sho_all ds fun y hy => h y (List.mem_cons_of_mem _ hy)
    obtain ⟨g1, g2, g3, g4⟩ := h d (List.mem_cons_self ..)
    refine ⟨?_, ?_, ?_, ?_, ?_⟩
    · show (d.showable && PyData.showableAll ds) = true
      rw [g1, h1]
      rfl
    · show (d.hasDict || PyData.hasDictAll ds) = false
      rw [g2, h2]
      rfl
    · show max d.depth (PyData.depthAll ds) ≤ k
      omega
    · show ((d.shown :: PyData.shownAll ds).map (·.length)).sum ≤ m * (ds.length + 1)
      rw [List.map_cons, List.sum_cons, Nat.mul_add, Nat.mul_one]
      omega
    · show (PyData.shownAll ds).length + 1 = ds.length + 1
      rw [h5]
theorem sho_tuple {k m : Nat} {ds : List PyData} (h : ∀ d ∈ ds, Sho d k m) : Sho (.tuple ds) (k + 1) ((m + 2) * ds.length + 4) := by
  obtain ⟨h1, h2, h3, h4, h5⟩ := sho_all ds h
  refine ⟨h1, h2, ?_, ?_⟩
  · show PyData.depthAll ds + 1 ≤ k + 1
    omega
  · show (tupleText (PyData.shownAll ds)).length ≤ _
    have h6 := tupleText_len_le (PyData.shownAll ds)
    rw [h5] at h6
    rw [Nat.add_mul]
    omega
theorem sho_list {k m : Nat} {ds : List PyData} (h : ∀ d ∈ ds, Sho d k m) : Sho (.list ds) (k + 1) ((m + 2) * ds.length + 4) := by
  obtain ⟨h1, h2, h3, h4, h5⟩ := sho_all ds h
  refine ⟨h1, h2, ?_, ?_⟩
  · show PyData.depthAll ds + 1 ≤ k + 1
    omega
  · show (listText (PyData.shownAll ds)).length ≤ _
    have h6 := listText_len_le (PyData.shownAll ds)
    rw [h5] at h6
    rw [Nat.add_mul]
    omega
/-! what can be laid and compared -/
structure Shp (d : PyData) (k : Nat) : Prop where
  lay : d.canLay0 = true
  deep : d.depth ≤ k
theorem Shp.mono {d : PyData} {k k' : Nat} (h : Shp d k) (hk : k ≤ k') : Shp d k' := ⟨h.lay, Nat.le_trans h.deep hk⟩
theorem Shp.shaped {d : PyData} {k : Nat} (h : Shp d k) (hk : k ≤ 30 := by decide) : SeqAt.shaped d = true := by
  have h2 := h.deep
  simp [SeqAt.shaped, h.lay]
  omega
theorem shp_int (i : Int) : Shp (.int i) 0 := ⟨rfl, Nat.le_refl _⟩
theorem shp_str {s : Str} (h : PyData.strOk s = true) : Shp (.str s) 0 := ⟨h, Nat.le_refl _⟩
theorem shp_bool (b : Bool) : Shp (.bool b) 0 := ⟨rfl, Nat.le_refl _⟩
theorem shp_none : Shp .none 0 := ⟨rfl, Nat.le_refl _⟩
theorem shp_all {k : Nat} : ∀ ds : List PyData, (∀ d ∈ ds, Shp d k) → PyData.canLayAll0 ds = true ∧ PyData.depthAll ds ≤ k
  | [], _ => ⟨rfl, Nat.zero_le _⟩
  | d :: ds, h => by
    obtain ⟨h1, h2⟩ := shp_all ds fun y hy => h y (List.mem_cons_of_mem _ hy)
    obtain ⟨g1, g2⟩ := h d (List.mem_cons_self ..)
    refine ⟨?_, ?_⟩
    · show (d.canLay0 && PyData.canLayAll0 ds) = true
      rw [g1, h1]
      rfl
    · show max d.depth (PyData.depthAll ds) ≤ k
      omega
theorem shp_tuple {k : Nat} {ds : List PyData} (h : ∀ d ∈ ds, Shp d k) : Shp (.tuple ds) (k + 1) := by
  obtain ⟨h1, h2⟩ := shp_all ds h
  refine ⟨h1, ?_⟩
  show PyData.depthAll ds + 1 ≤ k + 1
  omega
theorem shp_list {k : Nat} {ds : List PyData} (h : ∀ d ∈ ds, Shp d k) : Shp (.list ds) (k + 1) := by
  obtain ⟨h1, h2⟩ := shp_all ds h
  refine ⟨h1, ?_⟩
  show PyData.depthAll ds + 1 ≤ k + 1
  omega
theorem shp_ints_t (xs : List Int) : Shp (.tuple (xs.map PyData.int)) 1 := shp_tuple (k := 0) fun d hd => by
  obtain ⟨i, _, rfl⟩ := List.mem_map.mp hd
  exact shp_int i
theorem shp_ints_l (xs : List Int) : Shp (.list (xs.map PyData.int)) 1 := shp_list (k := 0) fun d hd => by
  obtain ⟨i, _, rfl⟩ := List.mem_map.mp hd
  exact shp_int i
end Sz
/-! == by an own __eq__ that is promised to say True -/
namespace Sz
open PySem PySem.Spec PyProof.Rows L2
section
variable {X : Cx} {CX : CXT} {k : Nat} {C : Str} {ps : List Str} {R : Addr → Addr → Hp → Prop} {E : XK}
theorem rcG_insP (G : PromM X.prog X.w X.K X.mg X.base CX k C "__eq__" ps (spEq R)) (hx : Passes CX X E) : RcG X k (DIns (He.ga X.K C) R) := by
  obtain ⟨fd, F, b⟩ := G.ex
  exact rcG_ins F G.me.at_ G.me.fn b hx
theorem eqG_insP (G : PromM X.prog X.w X.K X.mg X.base CX k C "__eq__" ps (spEq R)) (hx : Passes CX X E) : EqG X k (DIns (He.ga X.K C) R) := by
  obtain ⟨fd, F, b⟩ := G.ex
  exact eqG_ins F G.me.at_ G.me.fn b hx
end
end Sz
/-! lists or tuples walked, a class with plain parameters, two tuples zipped -/
namespace Sz
open PySem PySem.Spec PyProof.Rows L2
section
variable {X : Cx} {tg l : Expr} {tl : TE}
/-- for x in s, s a list or a tuple -/
theorem pi_seq (hl : PE X l tl) : PI X tg l (fun σ H R => iList X.K tl σ H R ∨ iTup X.K tl σ H R) := by
  refine ⟨fun pins s σ H R I h => ?_⟩
  rcases h with h | h
  · exact (pi_list (tg := tg) hl).run pins s σ H R I h
  · exact (pi_tup (tg := tg) hl).run pins s σ H R I h
end
section
variable {K : PySem.W.Frag} {a b : Addr} {xs ys : List V} {n : Nat}
theorem walk_zipT (hn : n = min xs.length ys.length) : Walk (RZ.ItzT K a b) n (fun H => SqT K H a xs ∧ SqT K H b ys) (YPair (fun i => xs[i]?) (fun i => ys[i]?)) := by
  refine ⟨fun i H hi g => ?_, fun H g => ⟨xs, ys, g.1, g.2, by omega⟩, fun i H x H' hi g y => ?_⟩
  · have h1 : i < xs.length := by omega
    have h2 : i < ys.length := by omega
    exact ⟨xs, ys, xs[i], ys[i], g.1, g.2, List.getElem?_eq_getElem h1, List.getElem?_eq_getElem h2⟩
  · obtain ⟨T, x1, y1, e1, e2, e3, e4, e5⟩ := y
    exact ⟨T, x1, y1, e1, e2, e3, e4 xs g.1, e5 ys g.2⟩
end
section
variable {P : Program} {w : World} {K : PySem.W.Frag} {mg : Str → Option Value} {base : Heap}
/-- a class whose __init__ takes its parameters one by one -/
theorem PromC.plain {C q : Str} {st : Stmt} {N ps : List Str} {sp sp0 : Sp} {k : Nat} (mk : Mk K (He.ga K C) (He.ma K (He.ga K C) "__init__")) (hm : mg C = some (.ref (He.ga K C))) (D : DefAtM K C "__init__" q st) (S : FnScope N ps (defScope st))
    (len : ∀ vs H Q E, sp0 vs H Q E → vs.length = ps.length)
    (hb : ∀ (kV doc pm : Value) (an : Option Addr) (cdv ct : Value) (us : List Value), us.length = ps.length → bindArgs (PySem.W.fnOf "__init__" q (defArgs st) (defBody st) (defScope st) .none kV doc pm an cdv ct) ⟨us, []⟩ = pure (ps.zip us))
    (hbody : ∀ (f : Addr) (cdv : Value) (A : Around) (outer : List Env) (s : Shared) (H : Hp) (vs : List V) (Q : VK) (E : XK), Room k (A.deeper (envOfC q (defScope st) s.heap.objs.size f cdv)) → sp0 vs H Q E →
      ∃ t, PSs (cxOf CX0 P w K mg base N q (defScope st) f cdv A outer s H E).nox (defBody st) t ∧ t { nx := fun _ H' => Q .non H', rt := Q } (start N vs) H)
    (hsp : ∀ vs H Q E, sp vs H Q E → ∀ x dx, H x = none → H dx = none → dx ≠ x → sp0 (.ref x :: vs) (upd (upd H dx (.own x)) x (.ins (He.ga K C) dx [])) (fun u H2 => u = .non ∧ Q (.ref x) H2) E) :
    PromC P w K mg base CX0 (k + 1) C sp := by
  obtain ⟨fd, F⟩ := D
  have F1 : FnOk P w K mg base CX0 (k + 1) (He.ma K (He.ga K C) "__init__") fd ps sp0 := F.ok S len (fun cdv A outer s H vs Q E hr hs => by
    obtain ⟨t, h1, h2⟩ := hbody _ cdv A outer s H vs Q E hr hs
    exact ⟨t, h1.nox, h2⟩)
  refine ⟨mk, hm, _, F1.raw (F.bindsN hb) .nil, fun vs H Q E hs x dx hx hdx ne => ?_⟩
  rw [List.append_nil]
  exact hsp vs H Q E hs x dx hx hdx ne
end
end Sz
/-! str(x), f"{x}" by an own __str__; x == y, x != y by an own __eq__ -/
namespace Sz
open PySem PySem.Spec PyProof.Rows L2
/-- what the class must have -/
structure StrK (K : PySem.W.Frag) (C : Addr) : Prop where
  fmt : PySem.W.findIn K (.ref C) "__format__" = some (some (.builtin "object.__format__"))
  mro : PySem.W.mroIn K C (.type "object") = some true
  ne : PySem.W.findIn K (.ref C) "__ne__" = some (some (.builtin "object.__ne__"))
def strB (K : PySem.W.Frag) (C : Addr) : Bool := He.eqO (PySem.W.findIn K (.ref C) "__format__") (some (some (.builtin "object.__format__"))) && (decide (PySem.W.mroIn K C (.type "object") = some true) && He.eqO (PySem.W.findIn K (.ref C) "__ne__") (some (some (.builtin "object.__ne__"))))
theorem strB_ok {K : PySem.W.Frag} {C : Addr} (h : strB K C = true) : StrK K C := by
  obtain ⟨h1, h⟩ := He.ba h
  obtain ⟨h2, h3⟩ := He.ba h
  exact ⟨He.eqO_ok h1, of_decide_eq_true h2, He.eqO_ok h3⟩
section
variable {X : Cx} {CX : CXT} {k n : Nat} {C : Str} {ps : List Str} {sp : Sp} {E : XK}
/-- the own method of an instance is called somewhere below the running body -/
theorem run_own {m : Str} (G : PromM X.prog X.w X.K X.mg X.base CX k C m ps sp) (hx : Passes CX X E) {A : Around} (sb : L2.Sub X k A) {pins : List (Addr × Obj)} {s : Shared} {σ : L2.St} {H : Hp} {vs : List V} {us : List Value} {Q : VK}
    (I : Inv X pins σ H s) (r : Vals vs us) (h : sp vs H Q E) : wpAny (model X.prog X.w) A (call (.ref (He.ma X.K (He.ga X.K C) m)) us) (EP X pins σ Q) X.xe s := by
  obtain ⟨fd, F, b⟩ := G.ex
  have hl := F.len _ _ _ _ h
  have e0 : Env0 X.prog X.w X.K X.mg X.base A X.stack s H := by
    have e := I.env0
    exact ⟨by rw [sb.fr]; exact e.frames, e.mod, e.bs, e.bsz, e.funs, e.frf, e.hok, e.bare⟩
  have hl2 : us.length = ps.length := by rw [← hl]; exact r.length.symm
  refine wpAny_call (codeAny_mono (F.run A X.stack s H ⟨us, []⟩ us vs _ E sb.room e0 (by
    have := b s us I.kIn (by simpa using hl2)
    simpa using this) r h) fun rr s' hq => ?_)
  cases rr with
  | error e => exact hx pins σ H s e s' I hq
  | ok fl =>
    cases fl with
    | ret v =>
      obtain ⟨z, H', I', rz, q⟩ := I.after hq
      exact ⟨z, H', I', rz, q⟩
    | next => exact False.elim hq
    | brk => exact False.elim hq
    | cont => exact False.elim hq
theorem strBack_of {pins : List (Addr × Obj)} {σ : L2.St} {Q : VK} {v : Value} {s' : Shared} (h : EP X pins σ (fun v H => ∃ y : Str, v = .str y ∧ Q (.str y) H) v s') : PySem.W.StrBack (EP X pins σ Q) v s' := by
  obtain ⟨z, H', I', rz, y, rfl, q⟩ := h
  obtain ⟨t, rfl⟩ := rz
  exact ⟨.str y, H', I', ⟨t, rfl⟩, q⟩
/-- f"{x}" by an own __str__ -/
def tFmtO (C : Addr) (sp : Sp) (E : XK) (te : TE) : TE := fun σ H Q => te σ H fun x H1 => ∃ p dx fs, x = .ref p ∧ H1 p = some (.ins C dx fs) ∧ sp [.ref p] H1 (fun v H2 => ∃ y : Str, v = .str y ∧ Q (.str y) H2) E
theorem pe_fmtO {e : Expr} {te : TE} {pos : Pos} (a : StrK X.K (He.ga X.K C)) (G : PromM X.prog X.w X.K X.mg X.base CX k C "__str__" ps sp) (hr : Room (k + 1) X.A) (hx : Passes CX X E) (he : PE X e te) :
    PE X (.FormattedValue e (-1) none pos) (tFmtO (He.ga X.K C) sp E te) := by
  refine ⟨fun pins s σ H Q I h => ?_⟩
  refine wpAny_FormattedValue_plain (thn (he.run pins s σ H _ I h) fun v s1 hv => ?_)
  obtain ⟨x, H1, I1, r1, p, dx, fs, rfl, hp, q⟩ := hv
  obtain rfl : v = Value.ref p := r1
  obtain ⟨m1, O1, _⟩ := ins_get I1.hok hp
  obtain ⟨od1, J1, _⟩ := O1.look
  refine PySem.W.kfo_fieldS hr.in1.units0 I1.kIn J1 a.fmt a.mro G.me.at_ G.me.fn ?_
  exact wpAny_mono (run_own G hx (A := X.A.in1) ⟨hr.in1, rfl⟩ (vs := [.ref p]) (us := [.ref p]) (I1.tok _) (.cons rfl .nil) q) (fun v s' z => strBack_of z) fun _ _ z => z
/-- str(x) by an own __str__ -/
theorem cr_strO (G : PromM X.prog X.w X.K X.mg X.base CX k C "__str__" ps sp) (hr : Room (k + 2) X.A) (hx : Passes CX X E) :
    CallR X (.type "str") (fun xs H Q => ∃ p dx fs, xs = [.ref p] ∧ H p = some (.ins (He.ga X.K C) dx fs) ∧ sp [.ref p] H (fun v H2 => ∃ y : Str, v = .str y ∧ Q (.str y) H2) E) := by
  intro pins s σ H xs us Q I r h
  obtain ⟨p, dx, fs, rfl, hp, h⟩ := h
  obtain ⟨u, rfl, ru⟩ := vals1 r
  obtain rfl : u = Value.ref p := ru
  obtain ⟨m1, O1, _⟩ := ins_get I.hok hp
  obtain ⟨od1, J1, _⟩ := O1.look
  refine callType_codes (T := "str") (Bi := Builtin.«object.__init__») (Q₁ := fun r s₁ => ∃ y u, r = .str y u ∧ EP X pins σ Q r s₁) PySem.F.called_str (PySem.F.typeCall_str_1 _) PySem.F.entry_object_init ?_ ?_
  · refine codeAny_of_tree ?_
    show wpAny _ X.A.in1.in1 (do checkBuiltinCall "str.__new__" ⟨[.type "str", .ref p], []⟩; again (.builtin "str.__new__" ⟨[.type "str", .ref p], []⟩)) _ _ s
    refine wpAny_bind (wpAny_of_eq (PySem.F.newCall_str_1 _) (wpAny_pure ⟨plainId_quiet (by decide +kernel) _, codeAny_builtin PySem.F.entry_str_new ?_⟩))
    rw [Around.under_plainId (by decide +kernel) _]
    rw [str_new_tree]
    refine wpAny_bind (wpAny_pure ?_)
    refine wpAny_bind (wpAny_of_eq isSubtype_str_str ?_)
    have key : wpAny (model X.prog X.w) X.A.in1.in1 (PySem.Builtin.Str.strOf (.ref p)) (fun r s₁ => ∃ y u, r = .str y u ∧ EP X pins σ Q r s₁) X.xe s := by
      unfold PySem.Builtin.Str.strOf
      rw [show PySem.Builtin.Str.isExactStr (.ref p) = false from rfl]
      refine wpAny_bind (m := cRoomFor _ _) (wpAny_cRoomFor hr.in1.in1.units0 ?_)
      refine wpAny_bind (m := callSpecial? (.ref p) (Str.ofString "__str__")) (PySem.W.special_fn I.kIn J1 G.me.at_ (beq_iff_eq.mp G.me.fn) (wpAny_mono (run_own G hx (A := X.A.in1.in1) ⟨hr.in1.in1, rfl⟩ (vs := [.ref p]) (us := [.ref p]) I (.cons rfl .nil) h) (fun v s' z => ?_) fun _ _ y => y))
      obtain ⟨z, H', I', rz, y, rfl, q⟩ := z
      obtain ⟨t, rfl⟩ := rz
      exact wpAny_pure ⟨_, _, rfl, .str y, H', I', ⟨t, rfl⟩, q⟩
    exact wpAny_bind (wpAny_mono key (fun r s₁ hr => wpAny_pure hr) fun _ _ y => y)
  · rintro obj s₁ ⟨y, u, rfl, hq⟩
    exact ⟨typeIs_str _ _ _, PySem.F.args_object_init_2 _ _, object_init_meets PySem.F.called_str.init.lookup PySem.F.called_str.made (by decide) X.prog X.w X.A.in1 _ s₁ ⟨typeIs_str _ _ _, rfl, hq⟩⟩
/-- x == y by an own __eq__ -/
theorem op_eqO (G : PromM X.prog X.w X.K X.mg X.base CX k C "__eq__" ps sp) (hr : Room k X.A) (hx : Passes CX X E) :
    OpR X (compareOp .Eq) (fun x y H Q => ∃ p q dx fs dy gs, x = .ref p ∧ y = .ref q ∧ H p = some (.ins (He.ga X.K C) dx fs) ∧ H q = some (.ins (He.ga X.K C) dy gs) ∧ sp [.ref p, .ref q] H (fun v H2 => ∃ b : Bool, v = .bl b ∧ Q (.bl b) H2) E) := by
  intro pins s σ H x y v u Q I rx ry h
  obtain ⟨p, q, dx, fs, dy, gs, rfl, rfl, hp, hq, h⟩ := h
  obtain rfl : v = Value.ref p := rx
  obtain rfl : u = Value.ref q := ry
  obtain ⟨m1, O1, _⟩ := ins_get I.hok hp
  obtain ⟨od1, J1, _⟩ := O1.look
  obtain ⟨m2, O2, _⟩ := ins_get I.hok hq
  obtain ⟨od2, J2, _⟩ := O2.look
  obtain ⟨m, hF⟩ := I.fr
  show wpAny (model X.prog X.w) X.A (richCompare .Eq (.ref p) (.ref q)) (EP X pins σ Q) X.xe s
  refine PySem.W.cmp_K (op := .Eq) (tb := .ref (He.ga X.K C)) hr.units0 hF I.ok.mod.kin J1 J2.type (by simp [PySem.W.notFirst]) G.me.at_ G.me.fn ?_
  refine wpAny_mono (run_own G hx (A := X.A) ⟨hr, rfl⟩ (vs := [.ref p, .ref q]) (us := [.ref p, .ref q]) I (.cons rfl (.cons rfl .nil)) h) (fun v s' z => ?_) fun _ _ y => y
  obtain ⟨z, H', I', rz, b, rfl, q⟩ := z
  cases rz
  exact ⟨.bl b, H', I', rfl, q⟩
/-- x != y by an own __eq__ -/
theorem op_neO (a : StrK X.K (He.ga X.K C)) (G : PromM X.prog X.w X.K X.mg X.base CX k C "__eq__" ps sp) (hr : Room (k + 1) X.A) (hx : Passes CX X E) :
    OpR X (compareOp .NotEq) (fun x y H Q => ∃ p q dx fs dy gs, x = .ref p ∧ y = .ref q ∧ H p = some (.ins (He.ga X.K C) dx fs) ∧ H q = some (.ins (He.ga X.K C) dy gs) ∧ sp [.ref p, .ref q] H (fun v H2 => ∃ b : Bool, v = .bl b ∧ Q (.bl !b) H2) E) := by
  intro pins s σ H x y v u Q I rx ry h
  obtain ⟨p, q, dx, fs, dy, gs, rfl, rfl, hp, hq, h⟩ := h
  obtain rfl : v = Value.ref p := rx
  obtain rfl : u = Value.ref q := ry
  obtain ⟨m1, O1, _⟩ := ins_get I.hok hp
  obtain ⟨od1, J1, _⟩ := O1.look
  obtain ⟨m2, O2, _⟩ := ins_get I.hok hq
  obtain ⟨od2, J2, _⟩ := O2.look
  show wpAny (model X.prog X.w) X.A (richCompare .NotEq (.ref p) (.ref q)) (EP X pins σ Q) X.xe s
  have one : wpAny (model X.prog X.w) X.A (tryCompare (.ref p) "__ne__" (.ref q)) (fun r s' => ∃ v, r = some v ∧ EP X pins σ Q v s') X.xe s := by
    unfold tryCompare
    refine wpAny_bind ?_
    simp only [callSpecialIfBound?, bindSpecialIfBound?]
    refine wpAny_holding (wpAny_bind (wpAny_bind (wpAny_bind (J1.type.here ((PySem.W.looks_findIn I.kIn a.ne).here ?_)))))
    refine wpAny_bind (wpAny_askSetting (wpAny_ite ?_))
    have run : wpAny (model X.prog X.w) X.A (call (.builtin "object.__ne__") [.ref p, .ref q]) (fun r s' => ∃ b : Bool, r = .bool b ∧ EP X pins σ Q (.bool b) s') X.xe s := by
      refine wpAny_call (codeAny_call_builtin PySem.F.slot_object_ne.plain PySem.F.entry_object_ne (PySem.W.check_slot (i := "object.__ne__") (owner := "object") (n := "__ne__") (by decide +kernel) (by decide +kernel) (J1.type.andThen (PySem.W.looks_mroIn I.kIn a.mro)) (PySem.F.args_object_ne_2 _ _) ?_))
      unfold Builtin.«object.__ne__»
      refine wpAny_bind (m := slotArgs "__ne__" 1 _) (wpAny_pure ?_)
      refine wpAny_bind (m := cRoomFor _ _) (wpAny_cRoomFor hr.in1.units0 ?_)
      refine wpAny_bind (m := callSpecialIfBound? (.ref p) (Str.ofString "__eq__") _) (PySem.W.ifBound_K I.kIn J1 G.me.at_ G.me.fn (wpAny_mono (run_own G hx (A := X.A.in1) ⟨hr.in1, rfl⟩ (vs := [.ref p, .ref q]) (us := [.ref p, .ref q]) I (.cons rfl (.cons rfl .nil)) h) (fun r s' z => ?_) fun _ _ y => y))
      obtain ⟨z, H', I', rz, b, rfl, q⟩ := z
      cases rz
      exact wpAny_bind (wpAny_truthy_bool (wpAny_pure ⟨!b, rfl, .bl !b, H', I', rfl, q⟩))
    have fin : wpAny (model X.prog X.w) X.A (call (.builtin "object.__ne__") ([.ref p] ++ [.ref q]) >>= fun v => pure (some v)) (fun r s2 => ∃ b : Bool, r = some (.bool b) ∧ EP X pins σ Q (.bool b) s2) X.xe s :=
      wpAny_bind (wpAny_mono run (fun v s' h' => wpAny_pure (by obtain ⟨b, rfl, h'⟩ := h'; exact ⟨b, rfl, h'⟩)) fun _ _ h' => h')
    have fin2 := wpAny_mono (Q' := fun r s2 => wpAny (model X.prog X.w) X.A (match r with
      | some .notImplemented => pure none
      | none => pure none
      | some v => pure (some v) : Sem (Option Value)) (fun r s' => ∃ v, r = some v ∧ EP X pins σ Q v s') X.xe s2) fin (fun r s2 z => by
        obtain ⟨b, e, z⟩ := z
        subst e
        exact wpAny_pure ⟨_, rfl, z⟩) fun _ _ z => z
    split
    · exact wpAny_bind (wpAny_of_eq (PySem.F.slot_object_ne.bind _) (wpAny_pure (by exact fin2)))
    · exact wpAny_tryCatch (wpAny_bind (wpAny_of_eq (PySem.F.slot_object_ne.bind _) (wpAny_pure (by exact fin2))))
  unfold richCompare
  simp only [oneThing_ref]
  refine wpAny_holding (wpAny_bind (wpAny_cRoomFor hr.units0 ?_))
  rw [cmpInfo_NotEq]
  dsimp only
  refine wpAny_bind (J1.type.here (wpAny_bind (J2.type.here ?_)))
  rw [show (Value.ref (He.ga X.K C) != Value.ref (He.ga X.K C)) = false from by simp]
  simp only [Bool.false_eq_true, if_false]
  refine wpAny_bind (wpAny_pure ?_)
  simp only [Bool.false_eq_true, if_false]
  refine wpAny_bind (wpAny_mono one (fun r s' z => ?_) fun _ _ e => e)
  obtain ⟨v, rfl, hq⟩ := z
  exact wpAny_pure hq
end
end Sz
namespace Sz
open PySem PySem.Spec PyProof.Rows L2
def top (i : Nat) : Stmt := PySem.Challenge.pw_sizestacks_k54_whole_bounds_and_payloads.main.body.getD i (.Pass ⟨0, 0, 0, 0⟩)
abbrev s__wall : Stmt := top 0
theorem sc__wall : FnScope ["k"] ["k"] (defScope s__wall) := ⟨rfl, rfl, rfl, by decide +kernel, rfl, by decide +kernel, by decide +kernel⟩
abbrev s_is_integer : Stmt := top 26
theorem sc_is_integer : FnScope ["value"] ["value"] (defScope s_is_integer) := ⟨rfl, rfl, rfl, by decide +kernel, rfl, by decide +kernel, by decide +kernel⟩
abbrev s_is_between : Stmt := top 27
theorem sc_is_between : FnScope ["value", "least", "most"] ["value", "least", "most"] (defScope s_is_between) := ⟨rfl, rfl, rfl, by decide +kernel, rfl, by decide +kernel, by decide +kernel⟩
abbrev s_check_length : Stmt := top 28
theorem sc_check_length : FnScope ["value"] ["value"] (defScope s_check_length) := ⟨rfl, rfl, rfl, by decide +kernel, rfl, by decide +kernel, by decide +kernel⟩
abbrev s_check_base : Stmt := top 29
theorem sc_check_base : FnScope ["value"] ["value"] (defScope s_check_base) := ⟨rfl, rfl, rfl, by decide +kernel, rfl, by decide +kernel, by decide +kernel⟩
abbrev s_figures_of : Stmt := top 30
theorem sc_figures_of : FnScope ["length", "base", "count", "power", "eight", "turn"] ["length", "base"] (defScope s_figures_of) := ⟨rfl, rfl, rfl, by decide +kernel, rfl, by decide +kernel, by decide +kernel⟩
abbrev s_amount_of : Stmt := top 31
theorem sc_amount_of : FnScope ["word", "amount", "sign"] ["word"] (defScope s_amount_of) := ⟨rfl, rfl, rfl, by decide +kernel, rfl, by decide +kernel, by decide +kernel⟩
abbrev s_fault_in : Stmt := top 36
theorem sc_fault_in : FnScope ["kind", "numbers", "index", "least", "most"] ["kind", "numbers"] (defScope s_fault_in) := ⟨rfl, rfl, rfl, by decide +kernel, rfl, by decide +kernel, by decide +kernel⟩
abbrev s_begun : Stmt := top 37
theorem sc_begun : FnScope ["length", "whole"] ["length", "whole"] (defScope s_begun) := ⟨rfl, rfl, rfl, by decide +kernel, rfl, by decide +kernel, by decide +kernel⟩
abbrev s_total_of : Stmt := top 38
theorem sc_total_of : FnScope ["length", "base", "figures"] ["length", "base"] (defScope s_total_of) := ⟨rfl, rfl, rfl, by decide +kernel, rfl, by decide +kernel, by decide +kernel⟩
abbrev s_Wrap___init__ : Stmt := inClass (top 39) 0
theorem sc_Wrap___init__ : FnScope ["self", "kind", "numbers", "fault", "number"] ["self", "kind", "numbers"] (defScope s_Wrap___init__) := ⟨rfl, rfl, rfl, by decide +kernel, rfl, by decide +kernel, by decide +kernel⟩
abbrev s_Wrap_grown : Stmt := inClass (top 39) 2
theorem sc_Wrap_grown : FnScope ["self", "length", "base", "first", "last"] ["self", "length", "base"] (defScope s_Wrap_grown) := ⟨rfl, rfl, rfl, by decide +kernel, rfl, by decide +kernel, by decide +kernel⟩
abbrev s_Wrap___eq__ : Stmt := inClass (top 39) 4
theorem sc_Wrap___eq__ : FnScope ["self", "other"] ["self", "other"] (defScope s_Wrap___eq__) := ⟨rfl, rfl, rfl, by decide +kernel, rfl, by decide +kernel, by decide +kernel⟩
abbrev s_Wrap___str__ : Stmt := inClass (top 39) 5
theorem sc_Wrap___str__ : FnScope ["self"] ["self"] (defScope s_Wrap___str__) := ⟨rfl, rfl, rfl, by decide +kernel, rfl, by decide +kernel, by decide +kernel⟩
abbrev s_in_pieces : Stmt := top 40
theorem sc_in_pieces : FnScope ["length", "most", "constant", "base", "size", "rest"] ["length", "most", "constant", "base"] (defScope s_in_pieces) := ⟨rfl, rfl, rfl, by decide +kernel, rfl, by decide +kernel, by decide +kernel⟩
abbrev s_wrap_in : Stmt := top 41
theorem sc_wrap_in : FnScope ["text", "words", "kind", "numbers", "word"] ["text"] (defScope s_wrap_in) := ⟨rfl, rfl, rfl, by decide +kernel, rfl, by decide +kernel, by decide +kernel⟩
abbrev s_check_wrap : Stmt := top 42
theorem sc_check_wrap : FnScope ["value"] ["value"] (defScope s_check_wrap) := ⟨rfl, rfl, rfl, by decide +kernel, rfl, by decide +kernel, by decide +kernel⟩
abbrev s_fineness_of : Stmt := top 44
theorem sc_fineness_of : FnScope ["wraps", "product", "wrap"] ["wraps"] (defScope s_fineness_of) := ⟨rfl, rfl, rfl, by decide +kernel, rfl, by decide +kernel, by decide +kernel⟩
abbrev s_check_wraps : Stmt := top 45
theorem sc_check_wraps : FnScope ["values", "most", "index", "value"] ["values", "most"] (defScope s_check_wraps) := ⟨rfl, rfl, rfl, by decide +kernel, rfl, by decide +kernel, by decide +kernel⟩
abbrev s_Stack___init__ : Stmt := inClass (top 46) 0
theorem sc_Stack___init__ : FnScope ["self", "base", "wraps", "fineness"] ["self", "base", "wraps"] (defScope s_Stack___init__) := ⟨rfl, rfl, rfl, by decide +kernel, rfl, by decide +kernel, by decide +kernel⟩
abbrev s_Stack_grown : Stmt := inClass (top 46) 2
theorem sc_Stack_grown : FnScope ["self", "length", "wrap"] ["self", "length"] (defScope s_Stack_grown) := ⟨rfl, rfl, rfl, by decide +kernel, rfl, by decide +kernel, by decide +kernel⟩
abbrev s_Stack_size : Stmt := inClass (top 46) 3
theorem sc_Stack_size : FnScope ["self", "length"] ["self", "length"] (defScope s_Stack_size) := ⟨rfl, rfl, rfl, by decide +kernel, rfl, by decide +kernel, by decide +kernel⟩
abbrev s_Stack___add__ : Stmt := inClass (top 46) 6
theorem sc_Stack___add__ : FnScope ["self", "wrap", "wraps"] ["self", "wrap"] (defScope s_Stack___add__) := ⟨rfl, rfl, rfl, by decide +kernel, rfl, by decide +kernel, by decide +kernel⟩
abbrev s_Stack___len__ : Stmt := inClass (top 46) 9
theorem sc_Stack___len__ : FnScope ["self"] ["self"] (defScope s_Stack___len__) := ⟨rfl, rfl, rfl, by decide +kernel, rfl, by decide +kernel, by decide +kernel⟩
abbrev s_Stack___eq__ : Stmt := inClass (top 46) 10
theorem sc_Stack___eq__ : FnScope ["self", "other"] ["self", "other"] (defScope s_Stack___eq__) := ⟨rfl, rfl, rfl, by decide +kernel, rfl, by decide +kernel, by decide +kernel⟩
abbrev s_Stack___str__ : Stmt := inClass (top 46) 11
theorem sc_Stack___str__ : FnScope ["self", "wrap"] ["self"] (defScope s_Stack___str__) := ⟨rfl, rfl, rfl, by decide +kernel, rfl, by decide +kernel, by decide +kernel⟩
abbrev s_stack_in : Stmt := top 47
theorem sc_stack_in : FnScope ["text", "rows", "word", "gap", "rest", "base", "wraps", "row"] ["text"] (defScope s_stack_in) := ⟨rfl, rfl, rfl, by decide +kernel, rfl, by decide +kernel, by decide +kernel⟩
abbrev s_check_stack : Stmt := top 48
theorem sc_check_stack : FnScope ["value"] ["value"] (defScope s_check_stack) := ⟨rfl, rfl, rfl, by decide +kernel, rfl, by decide +kernel, by decide +kernel⟩
abbrev s_greatest_within : Stmt := top 50
theorem sc_greatest_within : FnScope ["stack", "bound", "low", "high", "middle"] ["stack", "bound"] (defScope s_greatest_within) := ⟨rfl, rfl, rfl, by decide +kernel, rfl, by decide +kernel, by decide +kernel⟩
abbrev s_payload : Stmt := top 51
theorem sc_payload : FnScope ["stack", "bound"] ["stack", "bound"] (defScope s_payload) := ⟨rfl, rfl, rfl, by decide +kernel, rfl, by decide +kernel, by decide +kernel⟩
abbrev s_stack_behind : Stmt := top 54
theorem sc_stack_behind : FnScope ["base", "steps", "wraps", "step"] ["base", "steps"] (defScope s_stack_behind) := ⟨rfl, rfl, rfl, by decide +kernel, rfl, by decide +kernel, by decide +kernel⟩
abbrev s_sizes_along : Stmt := top 55
theorem sc_sizes_along : FnScope ["base", "steps", "length", "found", "inner", "step", "size"] ["base", "steps", "length"] (defScope s_sizes_along) := ⟨rfl, rfl, rfl, by decide +kernel, rfl, by decide +kernel, by decide +kernel⟩
abbrev s_reaches : Stmt := top 56
theorem sc_reaches : FnScope ["base", "steps", "found", "place", "step", "most"] ["base", "steps"] (defScope s_reaches) := ⟨rfl, rfl, rfl, by decide +kernel, rfl, by decide +kernel, by decide +kernel⟩
abbrev s_least_reach : Stmt := top 57
theorem sc_least_reach : FnScope ["pairs", "place", "most"] ["pairs"] (defScope s_least_reach) := ⟨rfl, rfl, rfl, by decide +kernel, rfl, by decide +kernel, by decide +kernel⟩
abbrev s_check_free : Stmt := top 58
theorem sc_check_free : FnScope ["road"] ["road"] (defScope s_check_free) := ⟨rfl, rfl, rfl, by decide +kernel, rfl, by decide +kernel, by decide +kernel⟩
abbrev s_check_push : Stmt := top 59
theorem sc_check_push : FnScope ["stack", "wrap"] ["stack", "wrap"] (defScope s_check_push) := ⟨rfl, rfl, rfl, by decide +kernel, rfl, by decide +kernel, by decide +kernel⟩
abbrev s_add_step : Stmt := top 60
theorem sc_add_step : FnScope ["road", "step"] ["road", "step"] (defScope s_add_step) := ⟨rfl, rfl, rfl, by decide +kernel, rfl, by decide +kernel, by decide +kernel⟩
abbrev s_Road___init__ : Stmt := inClass (top 61) 0
theorem sc_Road___init__ : FnScope ["self", "base"] ["self", "base"] (defScope s_Road___init__) := ⟨rfl, rfl, rfl, by decide +kernel, rfl, by decide +kernel, by decide +kernel⟩
abbrev s_Road_push : Stmt := inClass (top 61) 1
theorem sc_Road_push : FnScope ["self", "wrap"] ["self", "wrap"] (defScope s_Road_push) := ⟨rfl, rfl, rfl, by decide +kernel, rfl, by decide +kernel, by decide +kernel⟩
abbrev s_Road_pop : Stmt := inClass (top 61) 2
theorem sc_Road_pop : FnScope ["self"] ["self"] (defScope s_Road_pop) := ⟨rfl, rfl, rfl, by decide +kernel, rfl, by decide +kernel, by decide +kernel⟩
abbrev s_Road_bound : Stmt := inClass (top 61) 3
theorem sc_Road_bound : FnScope ["self", "bound"] ["self", "bound"] (defScope s_Road_bound) := ⟨rfl, rfl, rfl, by decide +kernel, rfl, by decide +kernel, by decide +kernel⟩
abbrev s_Road_sizes : Stmt := inClass (top 61) 7
theorem sc_Road_sizes : FnScope ["self", "length"] ["self", "length"] (defScope s_Road_sizes) := ⟨rfl, rfl, rfl, by decide +kernel, rfl, by decide +kernel, by decide +kernel⟩
abbrev s_Road_fits : Stmt := inClass (top 61) 8
theorem sc_Road_fits : FnScope ["self", "length", "sizes", "size", "step"] ["self", "length"] (defScope s_Road_fits) := ⟨rfl, rfl, rfl, by decide +kernel, rfl, by decide +kernel, by decide +kernel⟩
abbrev s_Road_greatest : Stmt := inClass (top 61) 9
theorem sc_Road_greatest : FnScope ["self", "most"] ["self"] (defScope s_Road_greatest) := ⟨rfl, rfl, rfl, by decide +kernel, rfl, by decide +kernel, by decide +kernel⟩
abbrev s_Road_stopper : Stmt := inClass (top 61) 10
theorem sc_Road_stopper : FnScope ["self", "pairs", "least", "place", "most"] ["self"] (defScope s_Road_stopper) := ⟨rfl, rfl, rfl, by decide +kernel, rfl, by decide +kernel, by decide +kernel⟩
abbrev s_Road_idle : Stmt := inClass (top 61) 11
theorem sc_Road_idle : FnScope ["self", "pairs", "least", "found", "place", "most", "pair"] ["self"] (defScope s_Road_idle) := ⟨rfl, rfl, rfl, by decide +kernel, rfl, by decide +kernel, by decide +kernel⟩
abbrev s_L_cell : Stmt := top 63
theorem sc_L_cell : FnScope ["_law_cells", "_law_k", "_law_found", "_law_cell_here"] ["_law_cells", "_law_k"] (defScope s_L_cell) := ⟨rfl, rfl, rfl, by decide +kernel, rfl, by decide +kernel, by decide +kernel⟩
abbrev s_L_pool : Stmt := top 64
theorem sc_L_pool : FnScope ["_law_cell_here", "_law_digits"] ["_law_cell_here"] (defScope s_L_pool) := ⟨rfl, rfl, rfl, by decide +kernel, rfl, by decide +kernel, by decide +kernel⟩
abbrev s_L_draw : Stmt := top 65
theorem sc_L_draw : FnScope ["_law_pool_here", "_law_many", "_law_digit"] ["_law_pool_here", "_law_many"] (defScope s_L_draw) := ⟨rfl, rfl, rfl, by decide +kernel, rfl, by decide +kernel, by decide +kernel⟩
abbrev s_L_far : Stmt := top 66
theorem sc_L_far : FnScope ["_law_pool_here", "_law_cut", "_law_found", "_law_k"] ["_law_pool_here"] (defScope s_L_far) := ⟨rfl, rfl, rfl, by decide +kernel, rfl, by decide +kernel, by decide +kernel⟩
abbrev s_L_radix : Stmt := top 67
theorem sc_L_radix : FnScope ["_law_pool_here", "_law_way"] ["_law_pool_here"] (defScope s_L_radix) := ⟨rfl, rfl, rfl, by decide +kernel, rfl, by decide +kernel, by decide +kernel⟩
abbrev s_L_length : Stmt := top 68
theorem sc_L_length : FnScope ["_law_pool_here", "_law_b", "_law_way", "_law_power", "_law_k"] ["_law_pool_here", "_law_b"] (defScope s_L_length) := ⟨rfl, rfl, rfl, by decide +kernel, rfl, by decide +kernel, by decide +kernel⟩
abbrev s_L_constant : Stmt := top 69
theorem sc_L_constant : FnScope ["_law_pool_here", "_law_most", "_law_way"] ["_law_pool_here", "_law_most"] (defScope s_L_constant) := ⟨rfl, rfl, rfl, by decide +kernel, rfl, by decide +kernel, by decide +kernel⟩
abbrev s_L_fine : Stmt := top 70
theorem sc_L_fine : FnScope ["_law_tags", "_law_found", "_law_tag"] ["_law_tags"] (defScope s_L_fine) := ⟨rfl, rfl, rfl, by decide +kernel, rfl, by decide +kernel, by decide +kernel⟩
abbrev s_L_wrap : Stmt := top 71
theorem sc_L_wrap : FnScope ["_law_pool_here", "_law_room", "_law_way", "_law_most", "_law_many", "_law_k"] ["_law_pool_here", "_law_room"] (defScope s_L_wrap) := ⟨rfl, rfl, rfl, by decide +kernel, rfl, by decide +kernel, by decide +kernel⟩
abbrev s_L_figures : Stmt := top 72
theorem sc_L_figures : FnScope ["_law_n", "_law_b", "_law_far_here", "_law_count"] ["_law_n", "_law_b"] (defScope s_L_figures) := ⟨rfl, rfl, rfl, by decide +kernel, rfl, by decide +kernel, by decide +kernel⟩
abbrev s_L_over : Stmt := top 73
theorem sc_L_over : FnScope ["_law_tag", "_law_n", "_law_b", "_law_many", "_law_full", "_law_rest", "_law_last", "_law_parts_here"] ["_law_tag", "_law_n", "_law_b"] (defScope s_L_over) := ⟨rfl, rfl, rfl, by decide +kernel, rfl, by decide +kernel, by decide +kernel⟩
abbrev s_L_long : Stmt := top 74
theorem sc_L_long : FnScope ["_law_tags", "_law_n", "_law_b", "_law_tag"] ["_law_tags", "_law_n", "_law_b"] (defScope s_L_long) := ⟨rfl, rfl, rfl, by decide +kernel, rfl, by decide +kernel, by decide +kernel⟩
abbrev s_L_made : Stmt := top 75
theorem sc_L_made : FnScope ["_law_tag"] ["_law_tag"] (defScope s_L_made) := ⟨rfl, rfl, rfl, by decide +kernel, rfl, by decide +kernel, by decide +kernel⟩
abbrev s_L_edge : Stmt := top 76
theorem sc_L_edge : FnScope ["_law_pool_here", "_law_on_here", "_law_b", "_law_middle", "_law_way"] ["_law_pool_here", "_law_on_here", "_law_b", "_law_middle"] (defScope s_L_edge) := ⟨rfl, rfl, rfl, by decide +kernel, rfl, by decide +kernel, by decide +kernel⟩
abbrev s_L_move : Stmt := top 77
theorem sc_L_move : FnScope ["_law_pool_here", "_law_on_here", "_law_b", "_law_middle", "_law_way"] ["_law_pool_here", "_law_on_here", "_law_b", "_law_middle"] (defScope s_L_move) := ⟨rfl, rfl, rfl, by decide +kernel, rfl, by decide +kernel, by decide +kernel⟩
abbrev s_L_put : Stmt := top 78
theorem sc_L_put : FnScope ["_law_on_here", "_law_move_here"] ["_law_on_here", "_law_move_here"] (defScope s_L_put) := ⟨rfl, rfl, rfl, by decide +kernel, rfl, by decide +kernel, by decide +kernel⟩
abbrev s_L_moves : Stmt := top 79
theorem sc_L_moves : FnScope ["_law_pool_here", "_law_many", "_law_b", "_law_middle", "_law_found", "_law_on_here", "_law_k", "_law_move_here"] ["_law_pool_here", "_law_many", "_law_b", "_law_middle"] (defScope s_L_moves) := ⟨rfl, rfl, rfl, by decide +kernel, rfl, by decide +kernel, by decide +kernel⟩
abbrev s_L_on : Stmt := top 80
theorem sc_L_on : FnScope ["_law_moves_here", "_law_on_here", "_law_move_here"] ["_law_moves_here"] (defScope s_L_on) := ⟨rfl, rfl, rfl, by decide +kernel, rfl, by decide +kernel, by decide +kernel⟩
abbrev s_L_go : Stmt := top 81
theorem sc_L_go : FnScope ["_law_track_here", "_law_move_here"] ["_law_track_here", "_law_move_here"] (defScope s_L_go) := ⟨rfl, rfl, rfl, by decide +kernel, rfl, by decide +kernel, by decide +kernel⟩
abbrev s_L_track : Stmt := top 82
theorem sc_L_track : FnScope ["_law_moves_here", "_law_b", "_law_track_here", "_law_move_here"] ["_law_moves_here", "_law_b"] (defScope s_L_track) := ⟨rfl, rfl, rfl, by decide +kernel, rfl, by decide +kernel, by decide +kernel⟩
abbrev s_L_pile : Stmt := top 83
theorem sc_L_pile : FnScope ["_law_moves_here", "_law_b", "_law_pile_here", "_law_tag"] ["_law_moves_here", "_law_b"] (defScope s_L_pile) := ⟨rfl, rfl, rfl, by decide +kernel, rfl, by decide +kernel, by decide +kernel⟩
abbrev s_L_reach : Stmt := top 84
theorem sc_L_reach : FnScope ["_law_moves_here", "_law_b", "_law_found", "_law_k", "_law_most"] ["_law_moves_here", "_law_b"] (defScope s_L_reach) := ⟨rfl, rfl, rfl, by decide +kernel, rfl, by decide +kernel, by decide +kernel⟩
abbrev s_L_right : Stmt := top 85
theorem sc_L_right : FnScope ["_law_cell_here", "_law_pool_here", "_law_b", "_law_middle", "_law_moves_here", "_law_track_here", "_law_pairs", "_law_k", "_law_least", "_law_stopped", "_law_due", "_law_n", "_law_piles", "_law_rest", "_law_most", "_law_pile_here", "_law_at"] ["_law_cell_here"] (defScope s_L_right) := ⟨rfl, rfl, rfl, by decide +kernel, rfl, by decide +kernel, by decide +kernel⟩
abbrev s_law : Stmt := top 86
theorem sc_law : FnScope ["_law_cells", "_law_k"] ["_law_cells"] (defScope s_law) := ⟨rfl, rfl, rfl, by decide +kernel, rfl, by decide +kernel, by decide +kernel⟩
structure Tx (w : World) (K : PySem.W.Frag) (mg : Str → Option Value) : Prop where
  d__wall : DefAt K mg "_wall" s__wall
  d_is_integer : DefAt K mg "is_integer" s_is_integer
  d_is_between : DefAt K mg "is_between" s_is_between
  d_check_length : DefAt K mg "check_length" s_check_length
  d_check_base : DefAt K mg "check_base" s_check_base
  d_figures_of : DefAt K mg "figures_of" s_figures_of
  d_amount_of : DefAt K mg "amount_of" s_amount_of
  d_fault_in : DefAt K mg "fault_in" s_fault_in
  d_begun : DefAt K mg "begun" s_begun
  d_total_of : DefAt K mg "total_of" s_total_of
  d_in_pieces : DefAt K mg "in_pieces" s_in_pieces
  d_wrap_in : DefAt K mg "wrap_in" s_wrap_in
  d_check_wrap : DefAt K mg "check_wrap" s_check_wrap
  d_fineness_of : DefAt K mg "fineness_of" s_fineness_of
  d_check_wraps : DefAt K mg "check_wraps" s_check_wraps
  d_stack_in : DefAt K mg "stack_in" s_stack_in
  d_check_stack : DefAt K mg "check_stack" s_check_stack
  d_greatest_within : DefAt K mg "greatest_within" s_greatest_within
  d_payload : DefAt K mg "payload" s_payload
  d_stack_behind : DefAt K mg "stack_behind" s_stack_behind
  d_sizes_along : DefAt K mg "sizes_along" s_sizes_along
  d_reaches : DefAt K mg "reaches" s_reaches
  d_least_reach : DefAt K mg "least_reach" s_least_reach
  d_check_free : DefAt K mg "check_free" s_check_free
  d_check_push : DefAt K mg "check_push" s_check_push
  d_add_step : DefAt K mg "add_step" s_add_step
  d_L_cell : DefAt K mg "_law_cell" s_L_cell
  d_L_pool : DefAt K mg "_law_pool" s_L_pool
  d_L_draw : DefAt K mg "_law_draw" s_L_draw
  d_L_far : DefAt K mg "_law_far" s_L_far
  d_L_radix : DefAt K mg "_law_radix" s_L_radix
  d_L_length : DefAt K mg "_law_length" s_L_length
  d_L_constant : DefAt K mg "_law_constant" s_L_constant
  d_L_fine : DefAt K mg "_law_fine" s_L_fine
  d_L_wrap : DefAt K mg "_law_wrap" s_L_wrap
  d_L_figures : DefAt K mg "_law_figures" s_L_figures
  d_L_over : DefAt K mg "_law_over" s_L_over
  d_L_long : DefAt K mg "_law_long" s_L_long
  d_L_made : DefAt K mg "_law_made" s_L_made
  d_L_edge : DefAt K mg "_law_edge" s_L_edge
  d_L_move : DefAt K mg "_law_move" s_L_move
  d_L_put : DefAt K mg "_law_put" s_L_put
  d_L_moves : DefAt K mg "_law_moves" s_L_moves
  d_L_on : DefAt K mg "_law_on" s_L_on
  d_L_go : DefAt K mg "_law_go" s_L_go
  d_L_track : DefAt K mg "_law_track" s_L_track
  d_L_pile : DefAt K mg "_law_pile" s_L_pile
  d_L_reach : DefAt K mg "_law_reach" s_L_reach
  d_L_right : DefAt K mg "_law_right" s_L_right
  d_law : DefAt K mg "law" s_law
  b_abs : mg "abs" = none
  b_all : mg "all" = none
  b_divmod : mg "divmod" = none
  b_enumerate : mg "enumerate" = none
  b_int : mg "int" = none
  b_isinstance : mg "isinstance" = none
  b_len : mg "len" = none
  b_max : mg "max" = none
  b_min : mg "min" = none
  b_range : mg "range" = none
  b_repr : mg "repr" = none
  b_str : mg "str" = none
  b_tuple : mg "tuple" = none
  b_zip : mg "zip" = none
  c_MOST_LENGTH : ∃ u, mg "MOST_LENGTH" = some (.int 1000000000000000000000000000000000000000000000000000000000000 u)
  c_MOST_WRAPS : ∃ u, mg "MOST_WRAPS" = some (.int 6 u)
  c_MOST_FINENESS : ∃ u, mg "MOST_FINENESS" = some (.int 120 u)
  c_MOST_CONSTANT : ∃ u, mg "MOST_CONSTANT" = some (.int 1000 u)
  c_LEAST_BASE : ∃ u, mg "LEAST_BASE" = some (.int 2 u)
  c_MOST_BASE : ∃ u, mg "MOST_BASE" = some (.int 256 u)
  c_MOST_PIECE : ∃ u, mg "MOST_PIECE" = some (.int 60 u)
  c_MOST_CODE : ∃ u, mg "MOST_CODE" = some (.int 120 u)
  c_LAST_LENGTH : ∃ u, mg "LAST_LENGTH" = some (.int 999999999999999999999999999999999999999999999999999999999999 u)
  c_TENS : ∃ u, mg "TENS" = some (.str "0123456789" u)
  k_Wrap : mg "Wrap" = some (.ref (He.ga K "Wrap"))
  cl_Wrap : Cls K (He.ga K "Wrap")
  mk_Wrap : Mk K (He.ga K "Wrap") (He.ma K (He.ga K "Wrap") "__init__")
  is_Wrap : IsiK K (He.ga K "Wrap")
  na_Wrap_kind : NoAttr K (He.ga K "Wrap") "kind"
  na_Wrap_numbers : NoAttr K (He.ga K "Wrap") "numbers"
  na_Wrap_words : NoAttr K (He.ga K "Wrap") "words"
  me_Wrap___init__ : Meth K (He.ga K "Wrap") "__init__" (He.ma K (He.ga K "Wrap") "__init__")
  dm_Wrap___init__ : DefAtM K "Wrap" "__init__" "Wrap.__init__" s_Wrap___init__
  me_Wrap_grown : Meth K (He.ga K "Wrap") "grown" (He.ma K (He.ga K "Wrap") "grown")
  dm_Wrap_grown : DefAtM K "Wrap" "grown" "Wrap.grown" s_Wrap_grown
  me_Wrap___eq__ : Meth K (He.ga K "Wrap") "__eq__" (He.ma K (He.ga K "Wrap") "__eq__")
  dm_Wrap___eq__ : DefAtM K "Wrap" "__eq__" "Wrap.__eq__" s_Wrap___eq__
  me_Wrap___str__ : Meth K (He.ga K "Wrap") "__str__" (He.ma K (He.ga K "Wrap") "__str__")
  dm_Wrap___str__ : DefAtM K "Wrap" "__str__" "Wrap.__str__" s_Wrap___str__
  k_Stack : mg "Stack" = some (.ref (He.ga K "Stack"))
  cl_Stack : Cls K (He.ga K "Stack")
  mk_Stack : Mk K (He.ga K "Stack") (He.ma K (He.ga K "Stack") "__init__")
  is_Stack : IsiK K (He.ga K "Stack")
  na_Stack_base : NoAttr K (He.ga K "Stack") "base"
  na_Stack_wraps : NoAttr K (He.ga K "Stack") "wraps"
  na_Stack_fineness : NoAttr K (He.ga K "Stack") "fineness"
  me_Stack___init__ : Meth K (He.ga K "Stack") "__init__" (He.ma K (He.ga K "Stack") "__init__")
  dm_Stack___init__ : DefAtM K "Stack" "__init__" "Stack.__init__" s_Stack___init__
  me_Stack_grown : Meth K (He.ga K "Stack") "grown" (He.ma K (He.ga K "Stack") "grown")
  dm_Stack_grown : DefAtM K "Stack" "grown" "Stack.grown" s_Stack_grown
  me_Stack_size : Meth K (He.ga K "Stack") "size" (He.ma K (He.ga K "Stack") "size")
  dm_Stack_size : DefAtM K "Stack" "size" "Stack.size" s_Stack_size
  me_Stack___add__ : Meth K (He.ga K "Stack") "__add__" (He.ma K (He.ga K "Stack") "__add__")
  dm_Stack___add__ : DefAtM K "Stack" "__add__" "Stack.__add__" s_Stack___add__
  me_Stack___len__ : Meth K (He.ga K "Stack") "__len__" (He.ma K (He.ga K "Stack") "__len__")
  dm_Stack___len__ : DefAtM K "Stack" "__len__" "Stack.__len__" s_Stack___len__
  me_Stack___eq__ : Meth K (He.ga K "Stack") "__eq__" (He.ma K (He.ga K "Stack") "__eq__")
  dm_Stack___eq__ : DefAtM K "Stack" "__eq__" "Stack.__eq__" s_Stack___eq__
  me_Stack___str__ : Meth K (He.ga K "Stack") "__str__" (He.ma K (He.ga K "Stack") "__str__")
  dm_Stack___str__ : DefAtM K "Stack" "__str__" "Stack.__str__" s_Stack___str__
  k_Road : mg "Road" = some (.ref (He.ga K "Road"))
  cl_Road : Cls K (He.ga K "Road")
  mk_Road : Mk K (He.ga K "Road") (He.ma K (He.ga K "Road") "__init__")
  is_Road : IsiK K (He.ga K "Road")
  na_Road_base : NoAttr K (He.ga K "Road") "base"
  na_Road_steps : NoAttr K (He.ga K "Road") "steps"
  na_Road_stack : NoAttr K (He.ga K "Road") "stack"
  na_Road_busy : NoAttr K (He.ga K "Road") "busy"
  me_Road___init__ : Meth K (He.ga K "Road") "__init__" (He.ma K (He.ga K "Road") "__init__")
  dm_Road___init__ : DefAtM K "Road" "__init__" "Road.__init__" s_Road___init__
  me_Road_push : Meth K (He.ga K "Road") "push" (He.ma K (He.ga K "Road") "push")
  dm_Road_push : DefAtM K "Road" "push" "Road.push" s_Road_push
  me_Road_pop : Meth K (He.ga K "Road") "pop" (He.ma K (He.ga K "Road") "pop")
  dm_Road_pop : DefAtM K "Road" "pop" "Road.pop" s_Road_pop
  me_Road_bound : Meth K (He.ga K "Road") "bound" (He.ma K (He.ga K "Road") "bound")
  dm_Road_bound : DefAtM K "Road" "bound" "Road.bound" s_Road_bound
  me_Road_sizes : Meth K (He.ga K "Road") "sizes" (He.ma K (He.ga K "Road") "sizes")
  dm_Road_sizes : DefAtM K "Road" "sizes" "Road.sizes" s_Road_sizes
  me_Road_fits : Meth K (He.ga K "Road") "fits" (He.ma K (He.ga K "Road") "fits")
  dm_Road_fits : DefAtM K "Road" "fits" "Road.fits" s_Road_fits
  me_Road_greatest : Meth K (He.ga K "Road") "greatest" (He.ma K (He.ga K "Road") "greatest")
  dm_Road_greatest : DefAtM K "Road" "greatest" "Road.greatest" s_Road_greatest
  me_Road_stopper : Meth K (He.ga K "Road") "stopper" (He.ma K (He.ga K "Road") "stopper")
  dm_Road_stopper : DefAtM K "Road" "stopper" "Road.stopper" s_Road_stopper
  me_Road_idle : Meth K (He.ga K "Road") "idle" (He.ma K (He.ga K "Road") "idle")
  dm_Road_idle : DefAtM K "Road" "idle" "Road.idle" s_Road_idle
  ad_Stack_Wrap : AddK K (He.ga K "Stack") (He.ga K "Wrap") (He.ma K (He.ga K "Stack") "__add__")
  st_Wrap : StrK K (He.ga K "Wrap")
  st_Stack : StrK K (He.ga K "Stack")
  ne_Road_Wrap : He.ga K "Road" ≠ He.ga K "Wrap"
  ne_Road_Stack : He.ga K "Road" ≠ He.ga K "Stack"
  k_RANGES : mg "RANGES" = some (.ref (He.ga K "RANGES"))
  kd : ∃ es n, KDict K w (He.ga K "RANGES") es n
  rg : ∀ a : Wr, Rng K (He.ga K "RANGES") a.kind a.rng
def dd__wall : He.DefD := ⟨("_wall", none), "_wall", "_wall", defArgs s__wall, defBody s__wall, defScope s__wall, [], []⟩
def dd_is_integer : He.DefD := ⟨("is_integer", none), "is_integer", "is_integer", defArgs s_is_integer, defBody s_is_integer, defScope s_is_integer, [], []⟩
def dd_is_between : He.DefD := ⟨("is_between", none), "is_between", "is_between", defArgs s_is_between, defBody s_is_between, defScope s_is_between, [], []⟩
def dd_check_length : He.DefD := ⟨("check_length", none), "check_length", "check_length", defArgs s_check_length, defBody s_check_length, defScope s_check_length, [], []⟩
def dd_check_base : He.DefD := ⟨("check_base", none), "check_base", "check_base", defArgs s_check_base, defBody s_check_base, defScope s_check_base, [], []⟩
def dd_figures_of : He.DefD := ⟨("figures_of", none), "figures_of", "figures_of", defArgs s_figures_of, defBody s_figures_of, defScope s_figures_of, [], []⟩
def dd_amount_of : He.DefD := ⟨("amount_of", none), "amount_of", "amount_of", defArgs s_amount_of, defBody s_amount_of, defScope s_amount_of, [], []⟩
def dd_fault_in : He.DefD := ⟨("fault_in", none), "fault_in", "fault_in", defArgs s_fault_in, defBody s_fault_in, defScope s_fault_in, [], []⟩
def dd_begun : He.DefD := ⟨("begun", none), "begun", "begun", defArgs s_begun, defBody s_begun, defScope s_begun, [], []⟩
def dd_total_of : He.DefD := ⟨("total_of", none), "total_of", "total_of", defArgs s_total_of, defBody s_total_of, defScope s_total_of, [], []⟩
def dd_in_pieces : He.DefD := ⟨("in_pieces", none), "in_pieces", "in_pieces", defArgs s_in_pieces, defBody s_in_pieces, defScope s_in_pieces, [], []⟩
def dd_wrap_in : He.DefD := ⟨("wrap_in", none), "wrap_in", "wrap_in", defArgs s_wrap_in, defBody s_wrap_in, defScope s_wrap_in, [], []⟩
def dd_check_wrap : He.DefD := ⟨("check_wrap", none), "check_wrap", "check_wrap", defArgs s_check_wrap, defBody s_check_wrap, defScope s_check_wrap, [], []⟩
def dd_fineness_of : He.DefD := ⟨("fineness_of", none), "fineness_of", "fineness_of", defArgs s_fineness_of, defBody s_fineness_of, defScope s_fineness_of, [], []⟩
def dd_check_wraps : He.DefD := ⟨("check_wraps", none), "check_wraps", "check_wraps", defArgs s_check_wraps, defBody s_check_wraps, defScope s_check_wraps, [], []⟩
def dd_stack_in : He.DefD := ⟨("stack_in", none), "stack_in", "stack_in", defArgs s_stack_in, defBody s_stack_in, defScope s_stack_in, [], []⟩
def dd_check_stack : He.DefD := ⟨("check_stack", none), "check_stack", "check_stack", defArgs s_check_stack, defBody s_check_stack, defScope s_check_stack, [], []⟩
def dd_greatest_within : He.DefD := ⟨("greatest_within", none), "greatest_within", "greatest_within", defArgs s_greatest_within, defBody s_greatest_within, defScope s_greatest_within, [], []⟩
def dd_payload : He.DefD := ⟨("payload", none), "payload", "payload", defArgs s_payload, defBody s_payload, defScope s_payload, [], []⟩
def dd_stack_behind : He.DefD := ⟨("stack_behind", none), "stack_behind", "stack_behind", defArgs s_stack_behind, defBody s_stack_behind, defScope s_stack_behind, [], []⟩
def dd_sizes_along : He.DefD := ⟨("sizes_along", none), "sizes_along", "sizes_along", defArgs s_sizes_along, defBody s_sizes_along, defScope s_sizes_along, [], []⟩
def dd_reaches : He.DefD := ⟨("reaches", none), "reaches", "reaches", defArgs s_reaches, defBody s_reaches, defScope s_reaches, [], []⟩
def dd_least_reach : He.DefD := ⟨("least_reach", none), "least_reach", "least_reach", defArgs s_least_reach, defBody s_least_reach, defScope s_least_reach, [], []⟩
def dd_check_free : He.DefD := ⟨("check_free", none), "check_free", "check_free", defArgs s_check_free, defBody s_check_free, defScope s_check_free, [], []⟩
def dd_check_push : He.DefD := ⟨("check_push", none), "check_push", "check_push", defArgs s_check_push, defBody s_check_push, defScope s_check_push, [], []⟩
def dd_add_step : He.DefD := ⟨("add_step", none), "add_step", "add_step", defArgs s_add_step, defBody s_add_step, defScope s_add_step, [], []⟩
def dd_L_cell : He.DefD := ⟨("_law_cell", none), "_law_cell", "_law_cell", defArgs s_L_cell, defBody s_L_cell, defScope s_L_cell, [], []⟩
def dd_L_pool : He.DefD := ⟨("_law_pool", none), "_law_pool", "_law_pool", defArgs s_L_pool, defBody s_L_pool, defScope s_L_pool, [], []⟩
def dd_L_draw : He.DefD := ⟨("_law_draw", none), "_law_draw", "_law_draw", defArgs s_L_draw, defBody s_L_draw, defScope s_L_draw, [], []⟩
def dd_L_far : He.DefD := ⟨("_law_far", none), "_law_far", "_law_far", defArgs s_L_far, defBody s_L_far, defScope s_L_far, [], []⟩
def dd_L_radix : He.DefD := ⟨("_law_radix", none), "_law_radix", "_law_radix", defArgs s_L_radix, defBody s_L_radix, defScope s_L_radix, [], []⟩
def dd_L_length : He.DefD := ⟨("_law_length", none), "_law_length", "_law_length", defArgs s_L_length, defBody s_L_length, defScope s_L_length, [], []⟩
def dd_L_constant : He.DefD := ⟨("_law_constant", none), "_law_constant", "_law_constant", defArgs s_L_constant, defBody s_L_constant, defScope s_L_constant, [], []⟩
def dd_L_fine : He.DefD := ⟨("_law_fine", none), "_law_fine", "_law_fine", defArgs s_L_fine, defBody s_L_fine, defScope s_L_fine, [], []⟩
def dd_L_wrap : He.DefD := ⟨("_law_wrap", none), "_law_wrap", "_law_wrap", defArgs s_L_wrap, defBody s_L_wrap, defScope s_L_wrap, [], []⟩
def dd_L_figures : He.DefD := ⟨("_law_figures", none), "_law_figures", "_law_figures", defArgs s_L_figures, defBody s_L_figures, defScope s_L_figures, [], []⟩
def dd_L_over : He.DefD := ⟨("_law_over", none), "_law_over", "_law_over", defArgs s_L_over, defBody s_L_over, defScope s_L_over, [], []⟩
def dd_L_long : He.DefD := ⟨("_law_long", none), "_law_long", "_law_long", defArgs s_L_long, defBody s_L_long, defScope s_L_long, [], []⟩
def dd_L_made : He.DefD := ⟨("_law_made", none), "_law_made", "_law_made", defArgs s_L_made, defBody s_L_made, defScope s_L_made, [], []⟩
def dd_L_edge : He.DefD := ⟨("_law_edge", none), "_law_edge", "_law_edge", defArgs s_L_edge, defBody s_L_edge, defScope s_L_edge, [], []⟩
def dd_L_move : He.DefD := ⟨("_law_move", none), "_law_move", "_law_move", defArgs s_L_move, defBody s_L_move, defScope s_L_move, [], []⟩
def dd_L_put : He.DefD := ⟨("_law_put", none), "_law_put", "_law_put", defArgs s_L_put, defBody s_L_put, defScope s_L_put, [], []⟩
def dd_L_moves : He.DefD := ⟨("_law_moves", none), "_law_moves", "_law_moves", defArgs s_L_moves, defBody s_L_moves, defScope s_L_moves, [], []⟩
def dd_L_on : He.DefD := ⟨("_law_on", none), "_law_on", "_law_on", defArgs s_L_on, defBody s_L_on, defScope s_L_on, [], []⟩
def dd_L_go : He.DefD := ⟨("_law_go", none), "_law_go", "_law_go", defArgs s_L_go, defBody s_L_go, defScope s_L_go, [], []⟩
def dd_L_track : He.DefD := ⟨("_law_track", none), "_law_track", "_law_track", defArgs s_L_track, defBody s_L_track, defScope s_L_track, [], []⟩
def dd_L_pile : He.DefD := ⟨("_law_pile", none), "_law_pile", "_law_pile", defArgs s_L_pile, defBody s_L_pile, defScope s_L_pile, [], []⟩
def dd_L_reach : He.DefD := ⟨("_law_reach", none), "_law_reach", "_law_reach", defArgs s_L_reach, defBody s_L_reach, defScope s_L_reach, [], []⟩
def dd_L_right : He.DefD := ⟨("_law_right", none), "_law_right", "_law_right", defArgs s_L_right, defBody s_L_right, defScope s_L_right, [], []⟩
def dd_law : He.DefD := ⟨("law", none), "law", "law", defArgs s_law, defBody s_law, defScope s_law, [], []⟩
def dd_Wrap___init__ : He.DefD := ⟨("Wrap", some "__init__"), "__init__", "Wrap.__init__", defArgs s_Wrap___init__, defBody s_Wrap___init__, defScope s_Wrap___init__, [], []⟩
def dd_Wrap_grown : He.DefD := ⟨("Wrap", some "grown"), "grown", "Wrap.grown", defArgs s_Wrap_grown, defBody s_Wrap_grown, defScope s_Wrap_grown, [], []⟩
def dd_Wrap___eq__ : He.DefD := ⟨("Wrap", some "__eq__"), "__eq__", "Wrap.__eq__", defArgs s_Wrap___eq__, defBody s_Wrap___eq__, defScope s_Wrap___eq__, [], []⟩
def dd_Wrap___str__ : He.DefD := ⟨("Wrap", some "__str__"), "__str__", "Wrap.__str__", defArgs s_Wrap___str__, defBody s_Wrap___str__, defScope s_Wrap___str__, [], []⟩
def dd_Stack___init__ : He.DefD := ⟨("Stack", some "__init__"), "__init__", "Stack.__init__", defArgs s_Stack___init__, defBody s_Stack___init__, defScope s_Stack___init__, [], []⟩
def dd_Stack_grown : He.DefD := ⟨("Stack", some "grown"), "grown", "Stack.grown", defArgs s_Stack_grown, defBody s_Stack_grown, defScope s_Stack_grown, [], []⟩
def dd_Stack_size : He.DefD := ⟨("Stack", some "size"), "size", "Stack.size", defArgs s_Stack_size, defBody s_Stack_size, defScope s_Stack_size, [], []⟩
def dd_Stack___add__ : He.DefD := ⟨("Stack", some "__add__"), "__add__", "Stack.__add__", defArgs s_Stack___add__, defBody s_Stack___add__, defScope s_Stack___add__, [], []⟩
def dd_Stack___len__ : He.DefD := ⟨("Stack", some "__len__"), "__len__", "Stack.__len__", defArgs s_Stack___len__, defBody s_Stack___len__, defScope s_Stack___len__, [], []⟩
def dd_Stack___eq__ : He.DefD := ⟨("Stack", some "__eq__"), "__eq__", "Stack.__eq__", defArgs s_Stack___eq__, defBody s_Stack___eq__, defScope s_Stack___eq__, [], []⟩
def dd_Stack___str__ : He.DefD := ⟨("Stack", some "__str__"), "__str__", "Stack.__str__", defArgs s_Stack___str__, defBody s_Stack___str__, defScope s_Stack___str__, [], []⟩
def dd_Road___init__ : He.DefD := ⟨("Road", some "__init__"), "__init__", "Road.__init__", defArgs s_Road___init__, defBody s_Road___init__, defScope s_Road___init__, [], []⟩
def dd_Road_push : He.DefD := ⟨("Road", some "push"), "push", "Road.push", defArgs s_Road_push, defBody s_Road_push, defScope s_Road_push, [], []⟩
def dd_Road_pop : He.DefD := ⟨("Road", some "pop"), "pop", "Road.pop", defArgs s_Road_pop, defBody s_Road_pop, defScope s_Road_pop, [], []⟩
def dd_Road_bound : He.DefD := ⟨("Road", some "bound"), "bound", "Road.bound", defArgs s_Road_bound, defBody s_Road_bound, defScope s_Road_bound, [], []⟩
def dd_Road_sizes : He.DefD := ⟨("Road", some "sizes"), "sizes", "Road.sizes", defArgs s_Road_sizes, defBody s_Road_sizes, defScope s_Road_sizes, [], []⟩
def dd_Road_fits : He.DefD := ⟨("Road", some "fits"), "fits", "Road.fits", defArgs s_Road_fits, defBody s_Road_fits, defScope s_Road_fits, [], []⟩
def dd_Road_greatest : He.DefD := ⟨("Road", some "greatest"), "greatest", "Road.greatest", defArgs s_Road_greatest, defBody s_Road_greatest, defScope s_Road_greatest, [], []⟩
def dd_Road_stopper : He.DefD := ⟨("Road", some "stopper"), "stopper", "Road.stopper", defArgs s_Road_stopper, defBody s_Road_stopper, defScope s_Road_stopper, [], []⟩
def dd_Road_idle : He.DefD := ⟨("Road", some "idle"), "idle", "Road.idle", defArgs s_Road_idle, defBody s_Road_idle, defScope s_Road_idle, [], []⟩
def fnL : List He.DefD := [dd__wall, dd_is_integer, dd_is_between, dd_check_length, dd_check_base, dd_figures_of, dd_amount_of, dd_fault_in, dd_begun, dd_total_of, dd_in_pieces, dd_wrap_in, dd_check_wrap, dd_fineness_of, dd_check_wraps, dd_stack_in, dd_check_stack, dd_greatest_within, dd_payload, dd_stack_behind, dd_sizes_along, dd_reaches, dd_least_reach, dd_check_free, dd_check_push, dd_add_step, dd_L_cell, dd_L_pool, dd_L_draw, dd_L_far, dd_L_radix, dd_L_length, dd_L_constant, dd_L_fine, dd_L_wrap, dd_L_figures, dd_L_over, dd_L_long, dd_L_made, dd_L_edge, dd_L_move, dd_L_put, dd_L_moves, dd_L_on, dd_L_go, dd_L_track, dd_L_pile, dd_L_reach, dd_L_right, dd_law, dd_Wrap___init__, dd_Wrap_grown, dd_Wrap___eq__, dd_Wrap___str__, dd_Stack___init__, dd_Stack_grown, dd_Stack_size, dd_Stack___add__, dd_Stack___len__, dd_Stack___eq__, dd_Stack___str__, dd_Road___init__, dd_Road_push, dd_Road_pop, dd_Road_bound, dd_Road_sizes, dd_Road_fits, dd_Road_greatest, dd_Road_stopper, dd_Road_idle]
def faL : List He.Fa := [.glo "_wall", .glo "is_integer", .glo "is_between", .glo "check_length", .glo "check_base", .glo "figures_of", .glo "amount_of", .glo "fault_in", .glo "begun", .glo "total_of", .glo "in_pieces", .glo "wrap_in", .glo "check_wrap", .glo "fineness_of", .glo "check_wraps", .glo "stack_in", .glo "check_stack", .glo "greatest_within", .glo "payload", .glo "stack_behind", .glo "sizes_along", .glo "reaches", .glo "least_reach", .glo "check_free", .glo "check_push", .glo "add_step", .glo "_law_cell", .glo "_law_pool", .glo "_law_draw", .glo "_law_far", .glo "_law_radix", .glo "_law_length", .glo "_law_constant", .glo "_law_fine", .glo "_law_wrap", .glo "_law_figures", .glo "_law_over", .glo "_law_long", .glo "_law_made", .glo "_law_edge", .glo "_law_move", .glo "_law_put", .glo "_law_moves", .glo "_law_on", .glo "_law_go", .glo "_law_track", .glo "_law_pile", .glo "_law_reach", .glo "_law_right", .glo "law", .free "abs", .free "all", .free "divmod", .free "enumerate", .free "int", .free "isinstance", .free "len", .free "max", .free "min", .free "range", .free "repr", .free "str", .free "tuple", .free "zip", .int "MOST_LENGTH" 1000000000000000000000000000000000000000000000000000000000000, .int "MOST_WRAPS" 6, .int "MOST_FINENESS" 120, .int "MOST_CONSTANT" 1000, .int "LEAST_BASE" 2, .int "MOST_BASE" 256, .int "MOST_PIECE" 60, .int "MOST_CODE" 120, .int "LAST_LENGTH" 999999999999999999999999999999999999999999999999999999999999, .str "TENS" "0123456789", .glo "Wrap", .cls "Wrap", .mkr "Wrap", .noat "Wrap" "kind", .noat "Wrap" "numbers", .noat "Wrap" "words", .meth "Wrap" "__init__", .meth "Wrap" "grown", .meth "Wrap" "__eq__", .meth "Wrap" "__str__", .glo "Stack", .cls "Stack", .mkr "Stack", .noat "Stack" "base", .noat "Stack" "wraps", .noat "Stack" "fineness", .meth "Stack" "__init__", .meth "Stack" "grown", .meth "Stack" "size", .meth "Stack" "__add__", .meth "Stack" "__len__", .meth "Stack" "__eq__", .meth "Stack" "__str__", .glo "Road", .cls "Road", .mkr "Road", .noat "Road" "base", .noat "Road" "steps", .noat "Road" "stack", .noat "Road" "busy", .meth "Road" "__init__", .meth "Road" "push", .meth "Road" "pop", .meth "Road" "bound", .meth "Road" "sizes", .meth "Road" "fits", .meth "Road" "greatest", .meth "Road" "stopper", .meth "Road" "idle", .glo "RANGES"]
def loose0 : List Str := ["_wall", "is_integer", "is_between", "check_length", "check_base", "figures_of", "amount_of", "fault_in", "begun", "total_of", "in_pieces", "wrap_in", "check_wrap", "fineness_of", "check_wraps", "stack_in", "check_stack", "greatest_within", "payload", "stack_behind", "sizes_along", "reaches", "least_reach", "check_free", "check_push", "add_step", "_law_cell", "_law_pool", "_law_draw", "_law_far"]
def loose1 : List Str := ["_law_radix", "_law_length", "_law_constant", "_law_fine", "_law_wrap", "_law_figures", "_law_over", "_law_long", "_law_made", "_law_edge", "_law_move", "_law_put", "_law_moves", "_law_on", "_law_go", "_law_track", "_law_pile", "_law_reach", "_law_right", "Misfit", "Untimely", "Excess", "NotAWrap", "NotAStack", "InvalidKind", "InvalidBase", "InvalidLength", "InvalidNumber", "InvalidText", "InvalidNumbers"]
def loose2 : List Str := ["InvalidWraps", "NothingToPop", "Busy", "TooFine", "TooManyWraps", "Wrap", "Stack", "Road", "MOST_LENGTH", "MOST_WRAPS", "MOST_FINENESS", "MOST_CONSTANT", "TENS", "LEAST_BASE", "MOST_BASE", "MOST_PIECE", "MOST_CODE", "RANGES", "LAST_LENGTH"]
def looseL : List Str := loose0 ++ loose1 ++ loose2
abbrev RR : PySem.W.OpenRow := PySem.W.OpenLaw.row PySem.Challenge.rw_sizestacks_k54_whole_bounds_and_payloads
def tabL : List He.Tab := [(fun K => He.ga K "RANGES", ["plus", "told", "whole", "pieces", "cut", "coded", "filled"])]
def fbL (K : PySem.W.Frag) : Bool := [isiB K (He.ga K "Wrap"), isiB K (He.ga K "Stack"), isiB K (He.ga K "Road"), addB K "Stack" "Wrap", strB K (He.ga K "Wrap"), strB K (He.ga K "Stack"), decide (He.ga K "Road" ≠ He.ga K "Wrap"), decide (He.ga K "Road" ≠ He.ga K "Stack"), rngB K (He.ga K "RANGES") (Wr.plus 0).kind (Wr.plus 0).rng, rngB K (He.ga K "RANGES") (Wr.told 0).kind (Wr.told 0).rng, rngB K (He.ga K "RANGES") (Wr.whole 0).kind (Wr.whole 0).rng, rngB K (He.ga K "RANGES") (Wr.pieces 0 0).kind (Wr.pieces 0 0).rng, rngB K (He.ga K "RANGES") (Wr.cut 0 0).kind (Wr.cut 0 0).rng, rngB K (He.ga K "RANGES") (Wr.coded 0 0).kind (Wr.coded 0 0).rng, rngB K (He.ga K "RANGES") (Wr.filled 0).kind (Wr.filled 0).rng].all id
abbrev hk : PySem.W.Hook := hookX 5 fbL faL fnL tabL
def ob (z : PySem.W.SharedT) : AlX := obsXG 5 fbL faL fnL tabL (HandSHeadRun.getT z)
theorem ob_eq (z : PySem.W.SharedT) : ob z = hk.obs z.abs := obsXG_eq (HandSHeadRun.getT_eq z)
theorem runF (w : World) : HandSHeadRun.RunEq RR (PySem.W.view RR.prog [86]) hk ob 30000 looseL (w.withFollow "special-get-raises" false) := by
  intro os
  kernel_rfl
theorem runT (w : World) : HandSHeadRun.RunEq RR (PySem.W.view RR.prog [86]) hk ob 30000 looseL (w.withFollow "special-get-raises" true) := by
  intro os
  kernel_rfl
theorem run (w : World) : HandSHeadRun.RunEq RR (PySem.W.view RR.prog [86]) hk ob 30000 looseL w :=
  PySem.W.byRow2 "special-get-raises" (P := fun w => HandSHeadRun.RunEq RR (PySem.W.view RR.prog [86]) hk ob 30000 looseL w) runF runT w
theorem tx_of {w : World} {K : PySem.W.Frag} {h : Heap} {mg : Str → Option Value} (X : K.In h) (G : h.Ns mainGlobals mg) (c0 : SaysX fbL faL fnL tabL w K) : Tx w K mg := by
  have c : He.SaysD faL fnL K := c0.t.d
  exact {
    d__wall := let ⟨fd, F⟩ := c.def_ 0 (d := dd__wall) rfl; ⟨_, fd, F, He.glo_ok X G (c.fact 0 (f := .glo "_wall") rfl)⟩,
    d_is_integer := let ⟨fd, F⟩ := c.def_ 1 (d := dd_is_integer) rfl; ⟨_, fd, F, He.glo_ok X G (c.fact 1 (f := .glo "is_integer") rfl)⟩,
    d_is_between := let ⟨fd, F⟩ := c.def_ 2 (d := dd_is_between) rfl; ⟨_, fd, F, He.glo_ok X G (c.fact 2 (f := .glo "is_between") rfl)⟩,
    d_check_length := let ⟨fd, F⟩ := c.def_ 3 (d := dd_check_length) rfl; ⟨_, fd, F, He.glo_ok X G (c.fact 3 (f := .glo "check_length") rfl)⟩,
    d_check_base := let ⟨fd, F⟩ := c.def_ 4 (d := dd_check_base) rfl; ⟨_, fd, F, He.glo_ok X G (c.fact 4 (f := .glo "check_base") rfl)⟩,
    d_figures_of := let ⟨fd, F⟩ := c.def_ 5 (d := dd_figures_of) rfl; ⟨_, fd, F, He.glo_ok X G (c.fact 5 (f := .glo "figures_of") rfl)⟩,
    d_amount_of := let ⟨fd, F⟩ := c.def_ 6 (d := dd_amount_of) rfl; ⟨_, fd, F, He.glo_ok X G (c.fact 6 (f := .glo "amount_of") rfl)⟩,
    d_fault_in := let ⟨fd, F⟩ := c.def_ 7 (d := dd_fault_in) rfl; ⟨_, fd, F, He.glo_ok X G (c.fact 7 (f := .glo "fault_in") rfl)⟩,
    d_begun := let ⟨fd, F⟩ := c.def_ 8 (d := dd_begun) rfl; ⟨_, fd, F, He.glo_ok X G (c.fact 8 (f := .glo "begun") rfl)⟩,
    d_total_of := let ⟨fd, F⟩ := c.def_ 9 (d := dd_total_of) rfl; ⟨_, fd, F, He.glo_ok X G (c.fact 9 (f := .glo "total_of") rfl)⟩,
    d_in_pieces := let ⟨fd, F⟩ := c.def_ 10 (d := dd_in_pieces) rfl; ⟨_, fd, F, He.glo_ok X G (c.fact 10 (f := .glo "in_pieces") rfl)⟩,
    d_wrap_in := let ⟨fd, F⟩ := c.def_ 11 (d := dd_wrap_in) rfl; ⟨_, fd, F, He.glo_ok X G (c.fact 11 (f := .glo "wrap_in") rfl)⟩,
    d_check_wrap := let ⟨fd, F⟩ := c.def_ 12 (d := dd_check_wrap) rfl; ⟨_, fd, F, He.glo_ok X G (c.fact 12 (f := .glo "check_wrap") rfl)⟩,
    d_fineness_of := let ⟨fd, F⟩ := c.def_ 13 (d := dd_fineness_of) rfl; ⟨_, fd, F, He.glo_ok X G (c.fact 13 (f := .glo "fineness_of") rfl)⟩,
    d_check_wraps := let ⟨fd, F⟩ := c.def_ 14 (d := dd_check_wraps) rfl; ⟨_, fd, F, He.glo_ok X G (c.fact 14 (f := .glo "check_wraps") rfl)⟩,
    d_stack_in := let ⟨fd, F⟩ := c.def_ 15 (d := dd_stack_in) rfl; ⟨_, fd, F, He.glo_ok X G (c.fact 15 (f := .glo "stack_in") rfl)⟩,
    d_check_stack := let ⟨fd, F⟩ := c.def_ 16 (d := dd_check_stack) rfl; ⟨_, fd, F, He.glo_ok X G (c.fact 16 (f := .glo "check_stack") rfl)⟩,
    d_greatest_within := let ⟨fd, F⟩ := c.def_ 17 (d := dd_greatest_within) rfl; ⟨_, fd, F, He.glo_ok X G (c.fact 17 (f := .glo "greatest_within") rfl)⟩,
    d_payload := let ⟨fd, F⟩ := c.def_ 18 (d := dd_payload) rfl; ⟨_, fd, F, He.glo_ok X G (c.fact 18 (f := .glo "payload") rfl)⟩,
    d_stack_behind := let ⟨fd, F⟩ := c.def_ 19 (d := dd_stack_behind) rfl; ⟨_, fd, F, He.glo_ok X G (c.fact 19 (f := .glo "stack_behind") rfl)⟩,
    d_sizes_along := let ⟨fd, F⟩ := c.def_ 20 (d := dd_sizes_along) rfl; ⟨_, fd, F, He.glo_ok X G (c.fact 20 (f := .glo "sizes_along") rfl)⟩,
    d_reaches := let ⟨fd, F⟩ := c.def_ 21 (d := dd_reaches) rfl; ⟨_, fd, F, He.glo_ok X G (c.fact 21 (f := .glo "reaches") rfl)⟩,
    d_least_reach := let ⟨fd, F⟩ := c.def_ 22 (d := dd_least_reach) rfl; ⟨_, fd, F, He.glo_ok X G (c.fact 22 (f := .glo "least_reach") rfl)⟩,
    d_check_free := let ⟨fd, F⟩ := c.def_ 23 (d := dd_check_free) rfl; ⟨_, fd, F, He.glo_ok X G (c.fact 23 (f := .glo "check_free") rfl)⟩,
    d_check_push := let ⟨fd, F⟩ := c.def_ 24 (d := dd_check_push) rfl; ⟨_, fd, F, He.glo_ok X G (c.fact 24 (f := .glo "check_push") rfl)⟩,
    d_add_step := let ⟨fd, F⟩ := c.def_ 25 (d := dd_add_step) rfl; ⟨_, fd, F, He.glo_ok X G (c.fact 25 (f := .glo "add_step") rfl)⟩,
    d_L_cell := let ⟨fd, F⟩ := c.def_ 26 (d := dd_L_cell) rfl; ⟨_, fd, F, He.glo_ok X G (c.fact 26 (f := .glo "_law_cell") rfl)⟩,
    d_L_pool := let ⟨fd, F⟩ := c.def_ 27 (d := dd_L_pool) rfl; ⟨_, fd, F, He.glo_ok X G (c.fact 27 (f := .glo "_law_pool") rfl)⟩,
    d_L_draw := let ⟨fd, F⟩ := c.def_ 28 (d := dd_L_draw) rfl; ⟨_, fd, F, He.glo_ok X G (c.fact 28 (f := .glo "_law_draw") rfl)⟩,
    d_L_far := let ⟨fd, F⟩ := c.def_ 29 (d := dd_L_far) rfl; ⟨_, fd, F, He.glo_ok X G (c.fact 29 (f := .glo "_law_far") rfl)⟩,
    d_L_radix := let ⟨fd, F⟩ := c.def_ 30 (d := dd_L_radix) rfl; ⟨_, fd, F, He.glo_ok X G (c.fact 30 (f := .glo "_law_radix") rfl)⟩,
    d_L_length := let ⟨fd, F⟩ := c.def_ 31 (d := dd_L_length) rfl; ⟨_, fd, F, He.glo_ok X G (c.fact 31 (f := .glo "_law_length") rfl)⟩,
    d_L_constant := let ⟨fd, F⟩ := c.def_ 32 (d := dd_L_constant) rfl; ⟨_, fd, F, He.glo_ok X G (c.fact 32 (f := .glo "_law_constant") rfl)⟩,
    d_L_fine := let ⟨fd, F⟩ := c.def_ 33 (d := dd_L_fine) rfl; ⟨_, fd, F, He.glo_ok X G (c.fact 33 (f := .glo "_law_fine") rfl)⟩,
    d_L_wrap := let ⟨fd, F⟩ := c.def_ 34 (d := dd_L_wrap) rfl; ⟨_, fd, F, He.glo_ok X G (c.fact 34 (f := .glo "_law_wrap") rfl)⟩,
    d_L_figures := let ⟨fd, F⟩ := c.def_ 35 (d := dd_L_figures) rfl; ⟨_, fd, F, He.glo_ok X G (c.fact 35 (f := .glo "_law_figures") rfl)⟩,
    d_L_over := let ⟨fd, F⟩ := c.def_ 36 (d := dd_L_over) rfl; ⟨_, fd, F, He.glo_ok X G (c.fact 36 (f := .glo "_law_over") rfl)⟩,
    d_L_long := let ⟨fd, F⟩ := c.def_ 37 (d := dd_L_long) rfl; ⟨_, fd, F, He.glo_ok X G (c.fact 37 (f := .glo "_law_long") rfl)⟩,
    d_L_made := let ⟨fd, F⟩ := c.def_ 38 (d := dd_L_made) rfl; ⟨_, fd, F, He.glo_ok X G (c.fact 38 (f := .glo "_law_made") rfl)⟩,
    d_L_edge := let ⟨fd, F⟩ := c.def_ 39 (d := dd_L_edge) rfl; ⟨_, fd, F, He.glo_ok X G (c.fact 39 (f := .glo "_law_edge") rfl)⟩,
    d_L_move := let ⟨fd, F⟩ := c.def_ 40 (d := dd_L_move) rfl; ⟨_, fd, F, He.glo_ok X G (c.fact 40 (f := .glo "_law_move") rfl)⟩,
    d_L_put := let ⟨fd, F⟩ := c.def_ 41 (d := dd_L_put) rfl; ⟨_, fd, F, He.glo_ok X G (c.fact 41 (f := .glo "_law_put") rfl)⟩,
    d_L_moves := let ⟨fd, F⟩ := c.def_ 42 (d := dd_L_moves) rfl; ⟨_, fd, F, He.glo_ok X G (c.fact 42 (f := .glo "_law_moves") rfl)⟩,
    d_L_on := let ⟨fd, F⟩ := c.def_ 43 (d := dd_L_on) rfl; ⟨_, fd, F, He.glo_ok X G (c.fact 43 (f := .glo "_law_on") rfl)⟩,
    d_L_go := let ⟨fd, F⟩ := c.def_ 44 (d := dd_L_go) rfl; ⟨_, fd, F, He.glo_ok X G (c.fact 44 (f := .glo "_law_go") rfl)⟩,
    d_L_track := let ⟨fd, F⟩ := c.def_ 45 (d := dd_L_track) rfl; ⟨_, fd, F, He.glo_ok X G (c.fact 45 (f := .glo "_law_track") rfl)⟩,
    d_L_pile := let ⟨fd, F⟩ := c.def_ 46 (d := dd_L_pile) rfl; ⟨_, fd, F, He.glo_ok X G (c.fact 46 (f := .glo "_law_pile") rfl)⟩,
    d_L_reach := let ⟨fd, F⟩ := c.def_ 47 (d := dd_L_reach) rfl; ⟨_, fd, F, He.glo_ok X G (c.fact 47 (f := .glo "_law_reach") rfl)⟩,
    d_L_right := let ⟨fd, F⟩ := c.def_ 48 (d := dd_L_right) rfl; ⟨_, fd, F, He.glo_ok X G (c.fact 48 (f := .glo "_law_right") rfl)⟩,
    d_law := let ⟨fd, F⟩ := c.def_ 49 (d := dd_law) rfl; ⟨_, fd, F, He.glo_ok X G (c.fact 49 (f := .glo "law") rfl)⟩,
    b_abs := He.free_ok X G (c.fact 50 (f := .free "abs") rfl),
    b_all := He.free_ok X G (c.fact 51 (f := .free "all") rfl),
    b_divmod := He.free_ok X G (c.fact 52 (f := .free "divmod") rfl),
    b_enumerate := He.free_ok X G (c.fact 53 (f := .free "enumerate") rfl),
    b_int := He.free_ok X G (c.fact 54 (f := .free "int") rfl),
    b_isinstance := He.free_ok X G (c.fact 55 (f := .free "isinstance") rfl),
    b_len := He.free_ok X G (c.fact 56 (f := .free "len") rfl),
    b_max := He.free_ok X G (c.fact 57 (f := .free "max") rfl),
    b_min := He.free_ok X G (c.fact 58 (f := .free "min") rfl),
    b_range := He.free_ok X G (c.fact 59 (f := .free "range") rfl),
    b_repr := He.free_ok X G (c.fact 60 (f := .free "repr") rfl),
    b_str := He.free_ok X G (c.fact 61 (f := .free "str") rfl),
    b_tuple := He.free_ok X G (c.fact 62 (f := .free "tuple") rfl),
    b_zip := He.free_ok X G (c.fact 63 (f := .free "zip") rfl),
    c_MOST_LENGTH := He.int_ok X G (c.fact 64 (f := .int "MOST_LENGTH" 1000000000000000000000000000000000000000000000000000000000000) rfl),
    c_MOST_WRAPS := He.int_ok X G (c.fact 65 (f := .int "MOST_WRAPS" 6) rfl),
    c_MOST_FINENESS := He.int_ok X G (c.fact 66 (f := .int "MOST_FINENESS" 120) rfl),
    c_MOST_CONSTANT := He.int_ok X G (c.fact 67 (f := .int "MOST_CONSTANT" 1000) rfl),
    c_LEAST_BASE := He.int_ok X G (c.fact 68 (f := .int "LEAST_BASE" 2) rfl),
    c_MOST_BASE := He.int_ok X G (c.fact 69 (f := .int "MOST_BASE" 256) rfl),
    c_MOST_PIECE := He.int_ok X G (c.fact 70 (f := .int "MOST_PIECE" 60) rfl),
    c_MOST_CODE := He.int_ok X G (c.fact 71 (f := .int "MOST_CODE" 120) rfl),
    c_LAST_LENGTH := He.int_ok X G (c.fact 72 (f := .int "LAST_LENGTH" 999999999999999999999999999999999999999999999999999999999999) rfl),
    c_TENS := He.str_ok X G (c.fact 73 (f := .str "TENS" "0123456789") rfl),
    k_Wrap := He.glo_ok X G (c.fact 74 (f := .glo "Wrap") rfl),
    cl_Wrap := He.cls_ok (c.fact 75 (f := .cls "Wrap") rfl),
    mk_Wrap := He.mkr_ok (c.fact 76 (f := .mkr "Wrap") rfl),
    na_Wrap_kind := He.noat_ok (c.fact 77 (f := .noat "Wrap" "kind") rfl),
    na_Wrap_numbers := He.noat_ok (c.fact 78 (f := .noat "Wrap" "numbers") rfl),
    na_Wrap_words := He.noat_ok (c.fact 79 (f := .noat "Wrap" "words") rfl),
    me_Wrap___init__ := He.meth_ok (c.fact 80 (f := .meth "Wrap" "__init__") rfl),
    me_Wrap_grown := He.meth_ok (c.fact 81 (f := .meth "Wrap" "grown") rfl),
    me_Wrap___eq__ := He.meth_ok (c.fact 82 (f := .meth "Wrap" "__eq__") rfl),
    me_Wrap___str__ := He.meth_ok (c.fact 83 (f := .meth "Wrap" "__str__") rfl),
    k_Stack := He.glo_ok X G (c.fact 84 (f := .glo "Stack") rfl),
    cl_Stack := He.cls_ok (c.fact 85 (f := .cls "Stack") rfl),
    mk_Stack := He.mkr_ok (c.fact 86 (f := .mkr "Stack") rfl),
    na_Stack_base := He.noat_ok (c.fact 87 (f := .noat "Stack" "base") rfl),
    na_Stack_wraps := He.noat_ok (c.fact 88 (f := .noat "Stack" "wraps") rfl),
    na_Stack_fineness := He.noat_ok (c.fact 89 (f := .noat "Stack" "fineness") rfl),
    me_Stack___init__ := He.meth_ok (c.fact 90 (f := .meth "Stack" "__init__") rfl),
    me_Stack_grown := He.meth_ok (c.fact 91 (f := .meth "Stack" "grown") rfl),
    me_Stack_size := He.meth_ok (c.fact 92 (f := .meth "Stack" "size") rfl),
    me_Stack___add__ := He.meth_ok (c.fact 93 (f := .meth "Stack" "__add__") rfl),
    me_Stack___len__ := He.meth_ok (c.fact 94 (f := .meth "Stack" "__len__") rfl),
    me_Stack___eq__ := He.meth_ok (c.fact 95 (f := .meth "Stack" "__eq__") rfl),
    me_Stack___str__ := He.meth_ok (c.fact 96 (f := .meth "Stack" "__str__") rfl),
    k_Road := He.glo_ok X G (c.fact 97 (f := .glo "Road") rfl),
    cl_Road := He.cls_ok (c.fact 98 (f := .cls "Road") rfl),
    mk_Road := He.mkr_ok (c.fact 99 (f := .mkr "Road") rfl),
    na_Road_base := He.noat_ok (c.fact 100 (f := .noat "Road" "base") rfl),
    na_Road_steps := He.noat_ok (c.fact 101 (f := .noat "Road" "steps") rfl),
    na_Road_stack := He.noat_ok (c.fact 102 (f := .noat "Road" "stack") rfl),
    na_Road_busy := He.noat_ok (c.fact 103 (f := .noat "Road" "busy") rfl),
    me_Road___init__ := He.meth_ok (c.fact 104 (f := .meth "Road" "__init__") rfl),
    me_Road_push := He.meth_ok (c.fact 105 (f := .meth "Road" "push") rfl),
    me_Road_pop := He.meth_ok (c.fact 106 (f := .meth "Road" "pop") rfl),
    me_Road_bound := He.meth_ok (c.fact 107 (f := .meth "Road" "bound") rfl),
    me_Road_sizes := He.meth_ok (c.fact 108 (f := .meth "Road" "sizes") rfl),
    me_Road_fits := He.meth_ok (c.fact 109 (f := .meth "Road" "fits") rfl),
    me_Road_greatest := He.meth_ok (c.fact 110 (f := .meth "Road" "greatest") rfl),
    me_Road_stopper := He.meth_ok (c.fact 111 (f := .meth "Road" "stopper") rfl),
    me_Road_idle := He.meth_ok (c.fact 112 (f := .meth "Road" "idle") rfl),
    k_RANGES := He.glo_ok X G (c.fact 113 (f := .glo "RANGES") rfl),
    dm_Wrap___init__ := c.def_ 50 (d := dd_Wrap___init__) rfl,
    dm_Wrap_grown := c.def_ 51 (d := dd_Wrap_grown) rfl,
    dm_Wrap___eq__ := c.def_ 52 (d := dd_Wrap___eq__) rfl,
    dm_Wrap___str__ := c.def_ 53 (d := dd_Wrap___str__) rfl,
    dm_Stack___init__ := c.def_ 54 (d := dd_Stack___init__) rfl,
    dm_Stack_grown := c.def_ 55 (d := dd_Stack_grown) rfl,
    dm_Stack_size := c.def_ 56 (d := dd_Stack_size) rfl,
    dm_Stack___add__ := c.def_ 57 (d := dd_Stack___add__) rfl,
    dm_Stack___len__ := c.def_ 58 (d := dd_Stack___len__) rfl,
    dm_Stack___eq__ := c.def_ 59 (d := dd_Stack___eq__) rfl,
    dm_Stack___str__ := c.def_ 60 (d := dd_Stack___str__) rfl,
    dm_Road___init__ := c.def_ 61 (d := dd_Road___init__) rfl,
    dm_Road_push := c.def_ 62 (d := dd_Road_push) rfl,
    dm_Road_pop := c.def_ 63 (d := dd_Road_pop) rfl,
    dm_Road_bound := c.def_ 64 (d := dd_Road_bound) rfl,
    dm_Road_sizes := c.def_ 65 (d := dd_Road_sizes) rfl,
    dm_Road_fits := c.def_ 66 (d := dd_Road_fits) rfl,
    dm_Road_greatest := c.def_ 67 (d := dd_Road_greatest) rfl,
    dm_Road_stopper := c.def_ 68 (d := dd_Road_stopper) rfl,
    dm_Road_idle := c.def_ 69 (d := dd_Road_idle) rfl,
    kd := c0.t.tab 0 (t := (fun K => He.ga K "RANGES", ["plus", "told", "whole", "pieces", "cut", "coded", "filled"])) rfl,
    rg := fun a => by
      cases a with
      | plus _ => exact rngB_ok (K := K) (kd := (Wr.plus 0).kind) (qs := (Wr.plus 0).rng) (List.all_eq_true.mp c0.b _ (.tail _ (.tail _ (.tail _ (.tail _ (.tail _ (.tail _ (.tail _ (.tail _ (.head _))))))))))
      | told _ => exact rngB_ok (K := K) (kd := (Wr.told 0).kind) (qs := (Wr.told 0).rng) (List.all_eq_true.mp c0.b _ (.tail _ (.tail _ (.tail _ (.tail _ (.tail _ (.tail _ (.tail _ (.tail _ (.tail _ (.head _)))))))))))
      | whole _ => exact rngB_ok (K := K) (kd := (Wr.whole 0).kind) (qs := (Wr.whole 0).rng) (List.all_eq_true.mp c0.b _ (.tail _ (.tail _ (.tail _ (.tail _ (.tail _ (.tail _ (.tail _ (.tail _ (.tail _ (.tail _ (.head _))))))))))))
      | pieces _ _ => exact rngB_ok (K := K) (kd := (Wr.pieces 0 0).kind) (qs := (Wr.pieces 0 0).rng) (List.all_eq_true.mp c0.b _ (.tail _ (.tail _ (.tail _ (.tail _ (.tail _ (.tail _ (.tail _ (.tail _ (.tail _ (.tail _ (.tail _ (.head _)))))))))))))
      | cut _ _ => exact rngB_ok (K := K) (kd := (Wr.cut 0 0).kind) (qs := (Wr.cut 0 0).rng) (List.all_eq_true.mp c0.b _ (.tail _ (.tail _ (.tail _ (.tail _ (.tail _ (.tail _ (.tail _ (.tail _ (.tail _ (.tail _ (.tail _ (.tail _ (.head _))))))))))))))
      | coded _ _ => exact rngB_ok (K := K) (kd := (Wr.coded 0 0).kind) (qs := (Wr.coded 0 0).rng) (List.all_eq_true.mp c0.b _ (.tail _ (.tail _ (.tail _ (.tail _ (.tail _ (.tail _ (.tail _ (.tail _ (.tail _ (.tail _ (.tail _ (.tail _ (.tail _ (.head _)))))))))))))))
      | filled _ => exact rngB_ok (K := K) (kd := (Wr.filled 0).kind) (qs := (Wr.filled 0).rng) (List.all_eq_true.mp c0.b _ (.tail _ (.tail _ (.tail _ (.tail _ (.tail _ (.tail _ (.tail _ (.tail _ (.tail _ (.tail _ (.tail _ (.tail _ (.tail _ (.tail _ (.head _)))))))))))))))),
    is_Wrap := isiB_ok (He.cls_ok (c.fact 75 (f := .cls "Wrap") rfl)) (List.all_eq_true.mp c0.b _ (.head _)),
    is_Stack := isiB_ok (He.cls_ok (c.fact 85 (f := .cls "Stack") rfl)) (List.all_eq_true.mp c0.b _ (.tail _ (.head _))),
    is_Road := isiB_ok (He.cls_ok (c.fact 98 (f := .cls "Road") rfl)) (List.all_eq_true.mp c0.b _ (.tail _ (.tail _ (.head _)))),
    ne_Road_Wrap := of_decide_eq_true (List.all_eq_true.mp c0.b _ (.tail _ (.tail _ (.tail _ (.tail _ (.tail _ (.tail _ (.head _)))))))),
    ne_Road_Stack := of_decide_eq_true (List.all_eq_true.mp c0.b _ (.tail _ (.tail _ (.tail _ (.tail _ (.tail _ (.tail _ (.tail _ (.head _))))))))),
    st_Wrap := strB_ok (List.all_eq_true.mp c0.b _ (.tail _ (.tail _ (.tail _ (.tail _ (.head _)))))),
    st_Stack := strB_ok (List.all_eq_true.mp c0.b _ (.tail _ (.tail _ (.tail _ (.tail _ (.tail _ (.head _))))))),
    ad_Stack_Wrap := addB_ok (List.all_eq_true.mp c0.b _ (.tail _ (.tail _ (.tail _ (.head _))))) }
def spLaw (K : PySem.W.Frag) : Sp := fun vs H Q _ => ∃ (a : Addr) (ns : List Int), vs = [.ref a] ∧ SqL K H a (ns.map V.int) ∧ ns.length ≤ 63 ∧ (∀ z ∈ ns, Builtin.Int.intBits z ≤ 1048576) ∧ ∀ H', Q (.bl true) H'

/-! ### what a number is (for numbers alone) -/
def spIsInt : Sp := fun vs H Q _ => ∃ i : Int, vs = [.int i] ∧ Q (.bl true) H
def spBetween : Sp := fun vs H Q _ => ∃ v l m : Int, vs = [.int v, .int l, .int m] ∧ Q (.bl (decide (l ≤ v ∧ v ≤ m))) H
def spLength : Sp := fun vs H Q _ => ∃ n : Int, vs = [.int n] ∧ 0 ≤ n ∧ n ≤ 10 ^ 60 - 1 ∧ Q .non H
def spBase : Sp := fun vs H Q _ => ∃ n : Int, vs = [.int n] ∧ 2 ≤ n ∧ n ≤ 256 ∧ Q .non H
def spFig : Sp := fun vs H Q _ => ∃ n b : Int, vs = [.int n, .int b] ∧ 2 ≤ b ∧ b ≤ 256 ∧ n < 2 ^ 4000 ∧ ∀ k, IsF b n k → Q (.int k) H
section
variable {P : Program} {w : World} {K : PySem.W.Frag} {mg : Str → Option Value} {base : Heap}
theorem ok_is_integer (T : Tx w K mg) : Prom P w K mg base CX0 1 "is_integer" s_is_integer ["value"] spIsInt := by
  refine Prom.of T.d_is_integer sc_is_integer (fun vs H Q E h => ?_) (fun _ _ _ _ _ _ us hl => match us, hl with | [_], _ => rfl) (fun f cdv A outer s H vs Q E hr h => ?_)
  · obtain ⟨i, rfl, _⟩ := h
    rfl
  · obtain ⟨i, rfl, k⟩ := h
    refine ⟨_, (pss_one (ps_ret (pe_and (pe_callB call_isi (by rfl) T.b_isinstance (by decide +kernel) (pa_cons (pv 0) (pa_cons (pe_bltn (v := .ty "int") (by rfl) T.b_int (by decide +kernel) rfl) pa_nil))) (pe_and (pe_cmpR op_isnotBl (pv 0) pe_bl (nomark _)) (pe_one (pe_cmpR op_isnotBl (pv 0) pe_bl (nomark _))))))), ?_⟩
    refine ⟨_, rfl, _, _, _, _, true, rfl, .ty _, .base (.int _), kit_ty (by decide +kernel), true, rfl, iteT ?_⟩
    refine ⟨_, rfl, _, rfl, true, rfl, iteT ?_⟩
    exact ⟨_, rfl, _, rfl, k⟩
theorem ok_is_between (T : Tx w K mg) : Prom P w K mg base CX0 2 "is_between" s_is_between ["value", "least", "most"] spBetween := by
  refine Prom.of T.d_is_between sc_is_between (fun vs H Q E h => ?_) (fun _ _ _ _ _ _ us hl => match us, hl with | [_, _, _], _ => rfl) (fun f cdv A outer s H vs Q E hr h => ?_)
  · obtain ⟨v, l, m, rfl, _⟩ := h
    rfl
  · obtain ⟨v, l, m, rfl, k⟩ := h
    refine ⟨_, (pss_one (ps_ret (pe_and (pe_callP (ok_is_integer T) (hr.mono (by decide)) (by rfl) pass0 (pa_cons (pv 0) pa_nil)) (pe_one (pe_chain op_le op_le (pv 1) (pv 0) (pv 2)))))), ?_⟩
    refine ⟨_, rfl, v, rfl, true, rfl, iteT ?_⟩
    refine ⟨_, rfl, _, rfl, _, _, rfl, rfl, _, rfl, ifd (fun h1 => ?_) (fun h1 => ?_)⟩
    · refine ⟨_, rfl, _, _, rfl, rfl, ?_⟩
      show Q (.bl (decide (v ≤ m))) H
      have e : decide (v ≤ m) = decide (l ≤ v ∧ v ≤ m) := by simp [h1]
      rw [e]
      exact k
    · show Q (.bl false) H
      have e : false = decide (l ≤ v ∧ v ≤ m) := by simp [h1]
      rw [e]
      exact k
end
section
variable {P : Program} {w : World} {K : PySem.W.Frag} {mg : Str → Option Value} {base : Heap}
theorem ok_check_length (T : Tx w K mg) : Prom P w K mg base CX0 3 "check_length" s_check_length ["value"] spLength := by
  refine Prom.of T.d_check_length sc_check_length (fun vs H Q E h => ?_) (fun _ _ _ _ _ _ us hl => match us, hl with | [_], _ => rfl) (fun f cdv A outer s H vs Q E hr h => ?_)
  · obtain ⟨i, rfl, _⟩ := h
    rfl
  · obtain ⟨i, rfl, h0, h1, k⟩ := h
    refine ⟨_, (pss_one (ps_if (pt_not (pt_val (pe_callP (ok_is_between T) (hr.mono (by decide)) (by rfl) pass0 (pa_cons (pv 0) (pa_cons pe_int (pa_cons (pe_op op_sub (pe_gint T.c_MOST_LENGTH) pe_int) pa_nil)))))) (pss_one ps_never) pss_nil)), ?_⟩
    refine ⟨_, rfl, _, _, rfl, rfl, _, _, _, rfl, _, rfl, ?_⟩
    exact ifn (fun c => absurd (show (0 : Int) ≤ i ∧ i ≤ _ from ⟨h0, by omega⟩) c) (fun _ => k)
end
section
variable {P : Program} {w : World} {K : PySem.W.Frag} {mg : Str → Option Value} {base : Heap}
theorem ok_check_base (T : Tx w K mg) : Prom P w K mg base CX0 3 "check_base" s_check_base ["value"] spBase := by
  refine Prom.of T.d_check_base sc_check_base (fun vs H Q E h => ?_) (fun _ _ _ _ _ _ us hl => match us, hl with | [_], _ => rfl) (fun f cdv A outer s H vs Q E hr h => ?_)
  · obtain ⟨i, rfl, _⟩ := h
    rfl
  · obtain ⟨i, rfl, h0, h1, k⟩ := h
    refine ⟨_, (pss_one (ps_if (pt_not (pt_val (pe_callP (ok_is_between T) (hr.mono (by decide)) (by rfl) pass0 (pa_cons (pv 0) (pa_cons (pe_gint T.c_LEAST_BASE) (pa_cons (pe_gint T.c_MOST_BASE) pa_nil)))))) (pss_one ps_never) pss_nil)), ?_⟩
    refine ⟨_, rfl, _, _, _, rfl, _, rfl, ?_⟩
    exact ifn (fun c => absurd (show (2 : Int) ≤ i ∧ i ≤ 256 from ⟨h0, h1⟩) c) (fun _ => k)
end
section
variable {P : Program} {w : World} {K : PySem.W.Frag} {mg : Str → Option Value} {base : Heap}
theorem fig_mul {b p e n : Int} {j : Nat} (hb : 2 ≤ b) (hb2 : b ≤ 256) (hn : n < 2 ^ 4000) (hp : p = b ^ (j + 1)) (hj : j = 0 ∨ b ^ j ≤ n) (he : e = b ^ 8) : CMulW p e := by
  have b8 : b ^ 8 ≤ 256 ^ 8 := by
    have g : ∀ m : Nat, b ^ m ≤ 256 ^ m := fun m => by
      induction m with
      | zero => rw [Int.pow_zero, Int.pow_zero]; exact Int.le_refl _
      | succ m ih =>
        rw [Int.pow_succ, Int.pow_succ]
        exact Int.mul_le_mul ih hb2 (by omega) (Int.le_of_lt (Int.lt_of_lt_of_le (by decide) (pow_pos (show (1 : Int) ≤ 256 by decide) m)))
    exact g 8
  have p1 := pow_pos (show 1 ≤ b by omega) (j + 1)
  have p8 := pow_pos (show 1 ≤ b by omega) 8
  have hq : b ^ j ≤ 2 ^ 4000 := by
    rcases hj with h | h
    · rw [h, Int.pow_zero]
      exact pow_pos (by decide) 4000
    · omega
  have pj := pow_pos (show 1 ≤ b by omega) j
  have hp2 : p ≤ 2 ^ 4000 * 256 := by
    rw [hp, Int.pow_succ]
    exact Int.mul_le_mul hq hb2 (by omega) (Int.le_of_lt (Int.lt_of_lt_of_le (by decide) (pow_pos (show (1 : Int) ≤ 2 by decide) 4000)))
  refine wide_mul (a := 4009) (b := 65) ?_ ?_ (by decide) (by decide) (by decide)
  · have h1 : p < 2 ^ 4009 := Int.lt_of_le_of_lt hp2 (by decide)
    have h2 : ((p.natAbs : Nat) : Int) < ((2 ^ 4009 : Nat) : Int) := by
      rw [Int.natCast_pow]
      have e : ((2 : Nat) : Int) = 2 := rfl
      rw [e]
      omega
    exact Int.ofNat_lt.mp h2
  · have h1 : e < 2 ^ 65 := by
      rw [he]
      exact Int.lt_of_le_of_lt b8 (by decide)
    have h2 : ((e.natAbs : Nat) : Int) < ((2 ^ 65 : Nat) : Int) := by
      rw [Int.natCast_pow]
      have e : ((2 : Nat) : Int) = 2 := rfl
      rw [e]
      omega
    exact Int.ofNat_lt.mp h2
theorem ok_figures_of (T : Tx w K mg) : Prom P w K mg base CX0 1 "figures_of" s_figures_of ["length", "base"] spFig := by
  refine Prom.of T.d_figures_of sc_figures_of (fun vs H Q E h => ?_) (fun _ _ _ _ _ _ us hl => match us, hl with | [_, _], _ => rfl) (fun f cdv A outer s H vs Q E hr h => ?_)
  · obtain ⟨n, b, rfl, _⟩ := h
    rfl
  · obtain ⟨n, b, rfl, hb, hb2, hn, k⟩ := h
    refine ⟨_, (pss_cons (ps_par3 (i := 2) (j := 3) (l := 4) (by rfl) sc_figures_of.nd rfl rfl rfl (by decide) (by decide) (by decide) rfl rfl rfl (pa_cons pe_int (pa_cons (pv 1) (pa_cons pe_int pa_nil))) (by rfl))
      (pss_cons (ps_for PassesOwn.never (by rfl) (pi_range1 (by rfl) T.b_range (pa_cons pe_int pa_nil)) (pg_name (i := 5) sc_figures_of.nd rfl (Or.inl rfl)) (pss_one (ps_set (i := 4) sc_figures_of.nd rfl (Or.inl rfl) (pe_op op_mul (pv 4) (pv 1)))))
      (pss_cons (ps_while PassesOwn.never (pt_cmp (pc_le (pe_op op_mulW (pv 3) (pv 4)) (pv 0))) (pss_one (ps_par (i := 2) (j := 3) (by rfl) sc_figures_of.nd rfl rfl (by decide) rfl rfl (pa_cons (pe_op op_add (pv 2) pe_int) (pa_cons (pe_op op_mulW (pv 3) (pv 4)) pa_nil)) (by rfl))))
      (pss_cons (ps_while PassesOwn.never (pt_cmp (pc_le (pv 3) (pv 0))) (pss_one (ps_par (i := 2) (j := 3) (by rfl) sc_figures_of.nd rfl rfl (by decide) rfl rfl (pa_cons (pe_op op_add (pv 2) pe_int) (pa_cons (pe_op op_mul (pv 3) (pv 1)) pa_nil)) (by rfl))))
      (pss_one (ps_ret (pv 2))))))), ?_⟩
    -- count, power, eight = 1, base, 1
    refine ⟨_, rfl, _, _, _, rfl, ?_⟩
    -- for turn in range(8)
    refine ⟨8, rfl, by decide, by decide, for_range (lo := 0) (n := 8) (fun i σ H' => H' = H ∧ ∃ v, σ = [some (.int n), some (.int b), some (.int 1), some (.int b), some (.int (b ^ i)), v]) ⟨rfl, none, by rw [Int.pow_zero]; rfl⟩ ?_ ?_⟩
    · rintro i σ H' hi ⟨rfl, v, rfl⟩
      refine ⟨_, rfl, _, rfl, _, _, rfl, rfl, .inr ⟨by omega, by omega⟩, ?_⟩
      exact ⟨rfl, some (.int (0 + (i : Int))), by rw [Int.pow_succ]; rfl⟩
    · rintro σ H' ⟨rfl, v, rfl⟩
      -- while power * eight <= length
      refine ⟨fun m σ H1 => H1 = H' ∧ ∃ (j : Nat), σ = [some (.int n), some (.int b), some (.int ((j : Int) + 1)), some (.int (b ^ (j + 1))), some (.int (b ^ 8)), v] ∧ (j = 0 ∨ b ^ j ≤ n) ∧ m = (n + 1 - b ^ (j + 1)).toNat,
        ⟨_, rfl, 0, by rw [pow_one b]; rfl, .inl rfl, rfl⟩, ?_⟩
      rintro m σ H1 ⟨rfl, j, rfl, hj, hm⟩
      have p1 := pow_pos (show 1 ≤ b by omega) (j + 1)
      refine ⟨_, rfl, _, rfl, _, _, rfl, rfl, fig_mul hb hb2 hn rfl hj rfl, ?_⟩
      refine ⟨_, rfl, _, _, rfl, rfl, _, rfl, ifd (fun c => ?_) (fun c => ?_)⟩
      · refine ⟨_, fun σ' H' h => h, ?_⟩
        have e9 : b ^ (j + 1) * b ^ 8 = b ^ (j + 8 + 1) := by rw [← Int.pow_add]
        have e8 : b ^ (j + 1) < b ^ (j + 8 + 1) := Int.lt_of_lt_of_le (pow_lt hb (j + 1)) (pow_mono (show 1 ≤ b by omega) (by omega))
        refine ⟨_, rfl, _, _, rfl, rfl, _, rfl, _, rfl, _, _, rfl, rfl, fig_mul hb hb2 hn rfl hj rfl, _, _, rfl, ?_⟩
        refine ⟨_, ?_, rfl, j + 8, ?_, .inr ?_, rfl⟩
        · rw [hm]
          rw [e9] at c
          omega
        · show [some (V.int n), some (V.int b), some (V.int ((j : Int) + 1 + 8)), some (V.int (b ^ (j + 1) * b ^ 8)), some (V.int (b ^ 8)), v] = _
          rw [e9]
          have e : (j : Int) + 1 + 8 = ((j + 8 : Nat) : Int) + 1 := by omega
          rw [e]
        · rw [e9] at c
          exact Int.le_trans (pow_mono (show 1 ≤ b by omega) (by omega)) c
      · -- while power <= length
        refine ⟨fun m σ H2 => H2 = H1 ∧ ∃ (j : Nat), σ = [some (.int n), some (.int b), some (.int ((j : Int) + 1)), some (.int (b ^ (j + 1))), some (.int (b ^ 8)), v] ∧ (j = 0 ∨ b ^ j ≤ n) ∧ m = (n + 1 - b ^ (j + 1)).toNat,
          ⟨_, rfl, j, rfl, hj, rfl⟩, ?_⟩
        clear c hm p1 hj
        rintro m σ H2 ⟨rfl, j, rfl, hj, hm⟩
        have p1 := pow_pos (show 1 ≤ b by omega) (j + 1)
        refine ⟨_, rfl, _, rfl, _, _, rfl, rfl, _, rfl, ifd (fun c => ?_) (fun c => ?_)⟩
        · refine ⟨_, fun σ' H' h => h, ?_⟩
          have e8 := pow_lt hb (j + 1)
          refine ⟨_, rfl, _, _, rfl, rfl, _, rfl, _, rfl, _, _, rfl, rfl, .inr ⟨by omega, by omega⟩, _, _, rfl, ?_⟩
          refine ⟨_, ?_, rfl, j + 1, ?_, .inr c, rfl⟩
          · rw [hm]
            omega
          · show [some (V.int n), some (V.int b), some (V.int ((j : Int) + 1 + 1)), some (V.int (b ^ (j + 1) * b)), some (V.int (b ^ 8)), v] = _
            rw [← Int.pow_succ]
            have e : (j : Int) + 1 + 1 = ((j + 1 : Nat) : Int) + 1 := by omega
            rw [e]
        · exact ⟨_, rfl, k _ ⟨j, rfl, by omega, hj⟩⟩
end
section
variable {P : Program} {w : World} {K : PySem.W.Frag} {mg : Str → Option Value} {base : Heap}
def spTotal : Sp := fun vs H Q _ => ∃ n b : Int, vs = [.int n, .int b] ∧ 2 ≤ b ∧ b ≤ 256 ∧ 0 ≤ n ∧ n < 2 ^ 3900 ∧ ∀ s, IsTot b n s → s ≤ n + 4000 → Q (.int s) H
theorem ok_total_of (T : Tx w K mg) : Prom P w K mg base CX0 2 "total_of" s_total_of ["length", "base"] spTotal := by
  refine Prom.of T.d_total_of sc_total_of (fun vs H Q E h => ?_) (fun _ _ _ _ _ _ us hl => match us, hl with | [_, _], _ => rfl) (fun f cdv A outer s H vs Q E hr h => ?_)
  · obtain ⟨n, b, rfl, _⟩ := h
    rfl
  · obtain ⟨n, b, rfl, b0, b1, n0, n1, k⟩ := h
    have big : ∀ x : Int, x ≤ n + 4000 → x < 2 ^ 4000 := fun x hx => by
      have : (2 : Int) ^ 3900 + 4000 ≤ 2 ^ 4000 := by decide
      omega
    refine ⟨_, (pss_cons (ps_set (i := 2) sc_total_of.nd rfl (Or.inl rfl) (pe_callP (ok_figures_of T) (hr.mono (by decide)) (by rfl) pass0 (pa_cons (pv 0) (pa_cons (pv 1) pa_nil))))
      (pss_cons (ps_while PassesOwn.never (pt_cmp (pc_neI (pe_callP (ok_figures_of T) (hr.mono (by decide)) (by rfl) pass0 (pa_cons (pe_op op_add (pv 0) (pv 2)) (pa_cons (pv 1) pa_nil))) (pv 2))) (pss_one (ps_aug (i := 2) sc_total_of.nd rfl (.inl rfl) pe_int ip_add)))
      (pss_one (ps_ret (pe_op op_add (pv 0) (pv 2)))))), ?_⟩
    refine ⟨_, rfl, _, rfl, n, b, rfl, b0, b1, big n (by omega), fun z hz => ?_⟩
    have z0 := isF_pos hz
    have z1 := isF_bound b0 3900 n1 hz
    refine ⟨fun m σ H1 => H1 = H ∧ ((m = 1 ∧ σ = [some (.int n), some (.int b), some (.int z)]) ∨ (m = 0 ∧ σ = [some (.int n), some (.int b), some (.int (z + 1))] ∧ IsF b (n + z) (z + 1))), ⟨1, rfl, .inl ⟨rfl, rfl⟩⟩, ?_⟩
    rintro m σ H1 ⟨rfl, ⟨rfl, rfl⟩ | ⟨rfl, rfl, h1⟩⟩
    · refine ⟨_, rfl, _, rfl, _, _, rfl, rfl, _, rfl, n + z, b, rfl, b0, b1, big _ (by omega), fun g hg => ?_⟩
      refine ⟨_, rfl, _, _, rfl, rfl, _, rfl, ifn (fun c => ?_) (fun c => ?_)⟩
      · have e : g = z + 1 := (fig_grow b0 n0 hz hg).resolve_left c
        subst e
        exact ⟨_, fun _ _ h => h, _, rfl, _, _, rfl, rfl, 0, by decide, rfl, .inr ⟨rfl, rfl, hg⟩⟩
      · subst c
        exact ⟨_, rfl, _, rfl, _, _, rfl, rfl, k _ (isTot_first b0 hz hg) (by omega)⟩
    · refine ⟨_, rfl, _, rfl, _, _, rfl, rfl, _, rfl, n + (z + 1), b, rfl, b0, b1, big _ (by omega), fun g hg => ?_⟩
      have h2 := fig_next b0 n0 hz h1
      have e0 : n + (z + 1) = n + z + 1 := by omega
      rw [e0] at hg
      have e : g = z + 1 := isF_eq b0 hg h2
      refine ⟨_, rfl, _, _, rfl, rfl, _, rfl, ifn (fun c => absurd e c) (fun c => ?_)⟩
      refine ⟨_, rfl, _, rfl, _, _, rfl, rfl, ?_⟩
      show Q (.int (n + (z + 1))) _
      rw [e0]
      exact k _ (isTot_second b0 n0 hz h1) (by omega)
end
theorem log2_small {i : Int} (h0 : 0 ≤ i) (h1 : i < 10 ^ 70) : i.natAbs.log2 < 1920 := by
  have h3 : i.natAbs < 2 ^ 300 := Nat.lt_of_lt_of_le (show i.natAbs < 10 ^ 70 by omega) (by decide)
  exact Nat.lt_of_lt_of_le (PySem.Flt.log2_lt_of (by decide) h3) (by decide)
/-! ### ints shown -/
theorem shownAll_ints : ∀ xs : List Int, PyData.shownAll (xs.map PyData.int) = xs.map fun i => (toString i : Str)
  | [] => rfl
  | x :: xs => by
    show (toString x : Str) :: PyData.shownAll (xs.map PyData.int) = _
    rw [shownAll_ints xs]
    rfl
theorem sum_short : ∀ (xs : List Int), (∀ x ∈ xs, x.natAbs < 10 ^ 70) → ((xs.map fun i => (toString i : Str)).map (·.length)).sum ≤ 71 * xs.length
  | [], _ => by simp
  | x :: xs, h => by
    have h1 := sum_short xs fun y hy => h y (List.mem_cons_of_mem _ hy)
    have h2 : (toString x : Str).length ≤ 71 := by
      have := int_text_length_le10 (k := 70) (by decide) (h x (List.mem_cons_self ..))
      have e : (Str.ofString (toString x)).length = (toString x : String).length := PySem.ofString_length _
      show (Str.ofString (toString x)).length ≤ 71
      omega
    simp only [List.map_cons, List.sum_cons, List.length_cons]
    omega
def Shows (d : PyData) : Prop := d.showable = true ∧ d.hasDict = false ∧ d.depth ≤ 40 ∧ d.shown.length ≤ sizeLine
theorem ints_showable : ∀ xs : List Int, (∀ x ∈ xs, x.natAbs < 10 ^ 70) → PyData.showableAll (xs.map PyData.int) = true ∧ PyData.hasDictAll (xs.map PyData.int) = false ∧ PyData.depthAll (xs.map PyData.int) ≤ 2
  | [], _ => ⟨rfl, rfl, by decide⟩
  | x :: xs, h => by
    obtain ⟨h1, h2, h3⟩ := ints_showable xs fun y hy => h y (List.mem_cons_of_mem _ hy)
    have hx : x.natAbs.log2 < 1920 := by
      have h4 : x.natAbs < 2 ^ 300 := Nat.lt_of_lt_of_le (h x (List.mem_cons_self ..)) (by decide)
      exact Nat.lt_of_lt_of_le (PySem.Flt.log2_lt_of (by decide) h4) (by decide)
    refine ⟨?_, ?_, ?_⟩
    · show (decide (x.natAbs.log2 < 1920) && PyData.showableAll (xs.map PyData.int)) = true
      rw [h1, decide_eq_true hx] <;> rfl
    · show (false || PyData.hasDictAll (xs.map PyData.int)) = false
      rw [h2] <;> rfl
    · show max (PyData.depth (.int x)) (PyData.depthAll (xs.map PyData.int)) ≤ 2
      have : PyData.depth (.int x) ≤ 1 := by first | exact Nat.le_refl _ | exact Nat.zero_le _ | decide
      omega
theorem shows_tuple {xs : List Int} (h : ∀ x ∈ xs, x.natAbs < 10 ^ 70) (hl : xs.length ≤ 10000) : Shows (.tuple (xs.map PyData.int)) := by
  obtain ⟨h1, h2, h3⟩ := ints_showable xs h
  refine ⟨h1, h2, ?_, ?_⟩
  · show PyData.depthAll (xs.map PyData.int) + 1 ≤ 40
    omega
  · show (tupleText (PyData.shownAll (xs.map PyData.int))).length ≤ sizeLine
    have h4 := tupleText_len_le (PyData.shownAll (xs.map PyData.int))
    rw [shownAll_ints] at h4 ⊢
    have h5 := sum_short xs h
    rw [List.length_map] at h4
    rw [sizeLine_eq]
    omega
theorem shows_list {xs : List Int} (h : ∀ x ∈ xs, x.natAbs < 10 ^ 70) (hl : xs.length ≤ 10000) : Shows (.list (xs.map PyData.int)) := by
  obtain ⟨h1, h2, h3⟩ := ints_showable xs h
  refine ⟨h1, h2, ?_, ?_⟩
  · show PyData.depthAll (xs.map PyData.int) + 1 ≤ 40
    omega
  · show (listText (PyData.shownAll (xs.map PyData.int))).length ≤ sizeLine
    have h4 := listText_len_le (PyData.shownAll (xs.map PyData.int))
    rw [shownAll_ints] at h4 ⊢
    have h5 := sum_short xs h
    rw [List.length_map] at h4
    rw [sizeLine_eq]
    omega
theorem dp_ints {K : PySem.W.Frag} {H : Hp} : ∀ xs : List Int, DpAll K H (xs.map V.int) (xs.map PyData.int)
  | [] => .nil
  | x :: xs => .cons (.int x) (dp_ints xs)
/-! ### wraps -/
/-- the first number that does not do -/
def faultL : List (Int × Int) → List Int → Nat → Option Nat
  | q :: qs, n :: ns, i => if q.1 ≤ n ∧ n ≤ q.2 then faultL qs ns (i + 1) else some i
  | _, _, _ => none
def faultV (a : Wr) (ns : List Int) : V := match faultL a.rng ns 0 with
  | some i => .int (i : Nat)
  | none => if a.kind = "coded" ∧ ns.getD 1 0 < ns.getD 0 0 then .int 1 else .non
theorem faultL_drop : ∀ (qs : List (Int × Int)) (ns : List Int) (j i : Nat), qs.length = ns.length → (∀ m q n, m < i → qs[m]? = some q → ns[m]? = some n → q.1 ≤ n ∧ n ≤ q.2) → i ≤ ns.length → faultL qs ns j = faultL (qs.drop i) (ns.drop i) (j + i)
  | _, _, j, 0, _, _, _ => rfl
  | [], [], j, i + 1, _, _, h => by simp at h
  | [], _ :: _, j, i + 1, h, _, _ => by simp at h
  | _ :: _, [], j, i + 1, h, _, _ => by simp at h
  | q :: qs, n :: ns, j, i + 1, hl, hg, hi => by
    have h0 := hg 0 q n (by omega) rfl rfl
    have ih := faultL_drop qs ns (j + 1) i (by simpa using hl) (fun m q' n' hm h1 h2 => hg (m + 1) q' n' (by omega) (by simpa using h1) (by simpa using h2)) (by simpa using hi)
    show (if q.1 ≤ n ∧ n ≤ q.2 then faultL qs ns (j + 1) else some j) = _
    rw [if_pos h0, ih]
    have e : j + 1 + i = j + (i + 1) := by omega
    rw [e]
    rfl
theorem drop_at {α : Type} : ∀ {xs : List α} {i : Nat} {x : α}, xs[i]? = some x → xs.drop i = x :: xs.drop (i + 1)
  | [], i, x, h => by simp at h
  | y :: ys, 0, x, h => by
    simp at h
    rw [h]
    rfl
  | y :: ys, i + 1, x, h => drop_at (xs := ys) (i := i) (by simpa using h)
def spFault (K : PySem.W.Frag) : Sp := fun vs H Q _ => ∃ (a : Wr) (ns : List Int) (p : Addr), vs = [.str a.kind, .ref p] ∧ (SqL K H p (ns.map V.int) ∨ SqT K H p (ns.map V.int)) ∧ ns.length = a.rng.length ∧ ∀ H', Same H H' → Q (faultV a ns) H'
section
variable {P : Program} {w : World} {K : PySem.W.Frag} {mg : Str → Option Value} {base : Heap}
theorem sq_same {H H' : Hp} {p : Addr} {xs : List V} (s : Same H H') (h : SqL K H p xs ∨ SqT K H p xs) : SqL K H' p xs ∨ SqT K H' p xs := by
  rcases h with h | h
  · exact .inl (s.seq h)
  · refine .inr ?_
    rcases h with (h | ⟨o, h⟩) | h
    · exact .inl (.inl (s _ _ h))
    · exact .inl (.inr ⟨o, s _ _ h⟩)
    · exact .inr h
theorem ok_fault_in (T : Tx w K mg) : Prom P w K mg base CX0 3 "fault_in" s_fault_in ["kind", "numbers"] (spFault K) := by
  refine Prom.of T.d_fault_in sc_fault_in (fun vs H Q E h => ?_) (fun _ _ _ _ _ _ us hl => match us, hl with | [_, _], _ => rfl) (fun f cdv A outer s H vs Q E hr h => ?_)
  · obtain ⟨a, ns, p, rfl, _⟩ := h
    rfl
  · obtain ⟨a, ns, p, rfl, hS, hl, k⟩ := h
    obtain ⟨es, en, kd⟩ := T.kd
    obtain ⟨b, xs, hb, hq, hp⟩ := T.rg a
    have hlx := hp.len
    have at_ : ∀ {H' : Hp} {i : Nat} {n : Int} {Q' : VK}, Same H H' → ns[i]? = some n → Q' (.int n) H' → rIxL K (.ref p) (.int (i : Nat)) H' Q' ∨ rIxT K (.ref p) (.int (i : Nat)) H' Q' := fun {H' i n Q'} hs hn hQ => by
      have en : (ns.map V.int)[i]? = some (V.int n) := by rw [List.getElem?_map, hn]; rfl
      rcases sq_same hs hS with z | z
      · exact .inl ⟨p, _, _, _, rfl, rfl, z, atI_nat en, hQ⟩
      · exact .inr ⟨p, _, _, _, rfl, rfl, z, atI_nat en, hQ⟩
    refine ⟨_, (pss_cons (ps_for PassesOwn.never (by rfl) (pi_enumT (by rfl) T.b_enumerate (pa_cons (pe_ix ix_kdict (pe_glob (v := .ref _) (by rfl) T.k_RANGES rfl) (pv 0) (fun _ _ => rfl)) pa_nil)) (pg_tup rfl (pgs_cons (pg_name (i := 2) sc_fault_in.nd rfl (Or.inl rfl)) (pgs_cons (pg_tup rfl (pgs_cons (pg_name (i := 3) sc_fault_in.nd rfl (Or.inl rfl)) (pgs_cons (pg_name (i := 4) sc_fault_in.nd rfl (Or.inl rfl)) pgs_nil))) pgs_nil))) (pss_one (ps_if (pt_not (pt_val (pe_callP (ok_is_between T) (hr.mono (by decide)) (by rfl) pass0 (pa_cons (pe_ix ix_any (pv 1) (pv 2) (fun _ _ => rfl)) (pa_cons (pv 3) (pa_cons (pv 4) pa_nil)))))) (pss_one (ps_ret (pv 2))) pss_nil)))
      (pss_one (ps_ret (pe_ifExp (PW.pt (pw_and (pt_cmpR op_eq (pv 0) pe_str (nomark _)) (pw_and1 (pt_cmp (pc_lt (pe_ix ix_any (pv 1) pe_int (fun _ _ => rfl)) (pe_ix ix_any (pv 1) pe_int (fun _ _ => rfl))))))) pe_int pe_non)))), ?_⟩
    refine ⟨_, rfl, _, _, .ref b, rfl, rfl, ⟨es, en, _, kd.at_, kd.lit, hb, rfl⟩, b, xs, rfl, hq _, ?_⟩
    refine for_it (walk_enumT (K := K) (a := b) (xs := xs)) (fun i σ H' => Same H H' ∧ (∀ m q n, m < i → a.rng[m]? = some q → ns[m]? = some n → q.1 ≤ n ∧ n ≤ q.2) ∧ ∃ v1 v2 v3, σ = [some (.str a.kind), some (.ref p), v1, v2, v3]) ⟨Same.refl H, fun m q n h => absurd h (Nat.not_lt_zero m), none, none, none, rfl⟩ (fun _ _ H' _ _ => hq H') ?_ ?_
    · rintro i x σ H1 H2 hi ⟨hs, hg, v1, v2, v3, rfl⟩ ⟨t, x1, x2, rfl, ht, rfl, e1, e2⟩
      cases e1
      obtain ⟨c, q, rfl, hq2, hc⟩ := hp.get e2
      have hin : i < ns.length := by omega
      obtain ⟨n, hn⟩ : ∃ n, ns[i]? = some n := ⟨_, List.getElem?_eq_getElem hin⟩
      have hs2 : Same H (upd H1 t (.tup [.int (i : Nat), .ref c])) := fun y o e => by rw [upd_ne (ne_of_none (hs _ _ e) ht)]; exact hs _ _ e
      refine ⟨t, _, rfl, SqT.of upd_same, rfl, _, _, rfl, _, _, rfl, ?_⟩
      refine ⟨c, _, rfl, hc _, rfl, _, _, rfl, _, _, rfl, rfl, rfl, ?_⟩
      refine ⟨_, rfl, _, rfl, at_ hs2 hn ⟨_, rfl, _, rfl, n, q.1, q.2, rfl, _, rfl, ifn (fun c => ?_) (fun c => ?_)⟩⟩
      · have e : faultV a ns = .int (i : Nat) := by
          unfold faultV
          rw [faultL_drop a.rng ns 0 i hl.symm hg (by omega)]
          have d1 : a.rng.drop i = q :: a.rng.drop (i + 1) := drop_at hq2
          have d2 : ns.drop i = n :: ns.drop (i + 1) := drop_at hn
          rw [d1, d2]
          show (match (if q.1 ≤ n ∧ n ≤ q.2 then _ else some (0 + i)) with
            | some i => V.int (i : Nat)
            | none => _) = _
          rw [if_neg c, Nat.zero_add]
        have k2 := k _ hs2
        rw [e] at k2
        exact ⟨_, rfl, k2⟩
      · refine ⟨hs2, fun m q' n' hm h1 h2 => ?_, _, _, _, rfl⟩
        by_cases z : m = i
        · subst z
          rw [hq2] at h1
          rw [hn] at h2
          cases h1
          cases h2
          exact c
        · exact hg m q' n' (by omega) h1 h2
    · rintro σ H' ⟨hs, hg, v1, v2, v3, rfl⟩
      have e0 : faultL a.rng ns 0 = none := by
        rw [faultL_drop a.rng ns 0 ns.length hl.symm (by rw [hlx, ← hl] at hg; exact hg) (Nat.le_refl _)]
        rw [List.drop_length]
        cases a.rng.drop ns.length <;> rfl
      have k2 := k _ hs
      unfold faultV at k2
      rw [e0] at k2
      refine ⟨_, rfl, rfl, _, rfl, ifd (fun c => ?_) (fun c => ?_)⟩
      · have ec : a.kind = "coded" := by
          have c : V.str a.kind = V.str "coded" := c
          injection c
        have l2 : a.rng.length = 2 := by
          cases a with
          | coded _ _ => rfl
          | pieces _ _ => rfl
          | cut _ _ => rfl
          | plus _ => exact absurd (show ("plus" : Str) = "coded" from ec) (by decide)
          | told _ => exact absurd (show ("told" : Str) = "coded" from ec) (by decide)
          | whole _ => exact absurd (show ("whole" : Str) = "coded" from ec) (by decide)
          | filled _ => exact absurd (show ("filled" : Str) = "coded" from ec) (by decide)
        rw [l2] at hl
        obtain ⟨n0, n1, rfl⟩ : ∃ n0 n1, ns = [n0, n1] := by
          match ns, hl with
          | [n0, n1], _ => exact ⟨n0, n1, rfl⟩
        refine ⟨_, rfl, at_ (i := 1) (n := n1) hs rfl ⟨_, rfl, at_ (i := 0) (n := n0) hs rfl ⟨_, _, rfl, rfl, _, rfl, ifd (fun c2 => ?_) (fun c2 => ?_)⟩⟩⟩
        · rw [if_pos ⟨ec, c2⟩] at k2
          exact k2
        · rw [if_neg (fun z => c2 z.2)] at k2
          exact k2
      · rw [if_neg (fun z => c (congrArg V.str z.1))] at k2
        exact k2
end
/-- the text of a wrap -/
def Wr.text (a : Wr) : Str := Txt.join " " (a.kind :: a.nums.map fun i => (toString i : Str))
def wrapFs (a : Wr) (p : Addr) : List (Str × V) := [("kind", .str a.kind), ("numbers", .ref p), ("words", .str a.text)]
/-- a wrap stands there -/
def WrapAt (K : PySem.W.Frag) (H : Hp) (q : Addr) (a : Wr) : Prop := ∃ dx p, H q = some (.ins (He.ga K "Wrap") dx (wrapFs a p)) ∧ H p = some (.tup (a.nums.map V.int))
theorem WrapAt.same {K : PySem.W.Frag} {H H' : Hp} {q : Addr} {a : Wr} (h : WrapAt K H q a) (s : Same H H') : WrapAt K H' q a := by
  obtain ⟨dx, p, h1, h2⟩ := h
  exact ⟨dx, p, s _ _ h1, s _ _ h2⟩
def spInit (K : PySem.W.Frag) : Sp := fun vs H Q _ => ∃ (a : Wr) (x p dx : Addr), vs = [.ref x, .str a.kind, .ref p] ∧ a.ok ∧ H x = some (.ins (He.ga K "Wrap") dx []) ∧ H p = some (.tup (a.nums.map V.int)) ∧
  ∀ H', Kp x H H' → H' x = some (.ins (He.ga K "Wrap") dx (wrapFs a p)) → Q .non H'
def spWrap (K : PySem.W.Frag) : Sp := fun vs H Q _ => ∃ a : Wr, vs = .str a.kind :: a.nums.map V.int ∧ a.ok ∧ ∀ q H', H q = none → Same H H' → WrapAt K H' q a → Q (.ref q) H'
theorem kind_len (a : Wr) : a.kind.length ≤ 6 := by
  cases a with
  | plus _ => exact (show ("plus" : Str).length ≤ 6 by decide)
  | told _ => exact (show ("told" : Str).length ≤ 6 by decide)
  | whole _ => exact (show ("whole" : Str).length ≤ 6 by decide)
  | pieces _ _ => exact (show ("pieces" : Str).length ≤ 6 by decide)
  | cut _ _ => exact (show ("cut" : Str).length ≤ 6 by decide)
  | coded _ _ => exact (show ("coded" : Str).length ≤ 6 by decide)
  | filled _ => exact (show ("filled" : Str).length ≤ 6 by decide)
theorem faultL_one {q : Int × Int} {n : Int} (h : q.1 ≤ n ∧ n ≤ q.2) : faultL [q] [n] 0 = none := by
  show (if q.1 ≤ n ∧ n ≤ q.2 then none else some 0) = none
  rw [if_pos h]
theorem faultL_two {q r : Int × Int} {n m : Int} (h : q.1 ≤ n ∧ n ≤ q.2) (h2 : r.1 ≤ m ∧ m ≤ r.2) : faultL [q, r] [n, m] 0 = none := by
  show (if q.1 ≤ n ∧ n ≤ q.2 then (if r.1 ≤ m ∧ m ≤ r.2 then none else some 1) else some 0) = none
  rw [if_pos h, if_pos h2]
theorem fault_ok {a : Wr} (h : a.ok) : faultV a a.nums = .non := by
  unfold faultV
  cases a with
  | plus c => rw [show faultL (Wr.plus c).rng (Wr.plus c).nums 0 = none from faultL_one h]; rfl
  | told c => rw [show faultL (Wr.told c).rng (Wr.told c).nums 0 = none from faultL_one h]; rfl
  | whole c => rw [show faultL (Wr.whole c).rng (Wr.whole c).nums 0 = none from faultL_one h]; rfl
  | filled c => rw [show faultL (Wr.filled c).rng (Wr.filled c).nums 0 = none from faultL_one h]; rfl
  | pieces m c => rw [show faultL (Wr.pieces m c).rng (Wr.pieces m c).nums 0 = none from faultL_two ⟨h.1, h.2.1⟩ h.2.2]; rfl
  | cut m c => rw [show faultL (Wr.cut m c).rng (Wr.cut m c).nums 0 = none from faultL_two ⟨h.1, h.2.1⟩ h.2.2]; rfl
  | coded m c =>
    simp only [Wr.ok] at h
    rw [show faultL (Wr.coded m c).rng (Wr.coded m c).nums 0 = none from faultL_two ⟨h.1, h.2.1⟩ ⟨show (1 : Int) ≤ c by omega, h.2.2.2⟩]
    exact if_neg (fun z => absurd (show c < m from z.2) (by omega))
section
variable {P : Program} {w : World} {K : PySem.W.Frag} {mg : Str → Option Value} {base : Heap}
theorem ok_Wrap (T : Tx w K mg) : PromC P w K mg base CX0 4 "Wrap" (spWrap K) := by
  refine PromC.star (sp0 := spInit K) T.mk_Wrap T.k_Wrap T.dm_Wrap___init__ sc_Wrap___init__ (fun _ _ _ _ _ _ _ _ => rfl) (fun _ _ _ _ _ _ _ _ _ _ => rfl) (fun f cdv A outer s H vs Q E hr h => ?_) (fun vs H Q E h => ?_)
  · obtain ⟨a, x, p, dx, rfl, ha, hx, hp, k⟩ := h
    obtain ⟨es, en, kd⟩ := T.kd
    obtain ⟨b, xs, hb, hq, hps⟩ := T.rg a
    refine ⟨_, (pss_cons (ps_if (PW.pt (pw_or (pt_not (pt_val (pe_callB call_isi (by rfl) T.b_isinstance (by decide +kernel) (pa_cons (pv 1) (pa_cons (pe_bltn (v := .ty "str") (by rfl) T.b_str (by decide +kernel) rfl) pa_nil))))) (pw_or1 (pt_cmpR (op_notIn_kd kd) (pv 1) (pe_glob (v := .ref _) (by rfl) T.k_RANGES rfl) (by rfl))))) (pss_one ps_never) pss_nil)
      (pss_cons (ps_if (pt_cmp (pc_neI (pe_callB call_len_seq (by rfl) T.b_len (by decide +kernel) (pa_cons (pv 2) pa_nil)) (pe_callB call_len_seq (by rfl) T.b_len (by decide +kernel) (pa_cons (pe_ix ix_kdict (pe_glob (v := .ref _) (by rfl) T.k_RANGES rfl) (pv 1) (fun _ _ => rfl)) pa_nil)))) (pss_one ps_never) pss_nil)
      (pss_cons (ps_set (i := 3) sc_Wrap___init__.nd rfl (Or.inl rfl) (pe_callP (ok_fault_in T) (hr.mono (by decide)) (by rfl) pass0 (pa_cons (pv 1) (pa_cons (pv 2) pa_nil))))
      (pss_cons (ps_if (pt_cmpR op_notN (pv 3) pe_non (nomark _)) (pss_one ps_never) pss_nil)
      (pss_cons (ps_fld (pv 0) (pv 1) rfl)
      (pss_cons (ps_fld (pv 0) (pv 2) rfl)
      (pss_one (ps_fld (pv 0) (pe_join pe_str (pe_lst (pa_cons (pv 1) (StX.pa_star (pe_lc (own := [("number", 4)]) (g := (gName 4)) (tt := tYes) (by rfl) sc_Wrap___init__.nd (pi_tup (pv 2)) (blkOk_by (own := [("number", 4)]) (N := ["self", "kind", "numbers", "fault", "number"]) (sc := defScope s_Wrap___init__) (by decide +kernel)) (fun _ _ _ _ _ => (pg_name (i := 4) sc_Wrap___init__.nd rfl (Or.inl rfl))) (fun _ _ _ _ _ => pts_nil) (fun _ _ _ _ _ => (pe_joined1 (pe_fmt (pv 4))))) pa_nil)))) rfl)))))))), ?_⟩
    refine ⟨_, rfl, _, _, _, _, true, rfl, .ty _, .base (.str _), kit_ty (by decide +kernel), true, rfl, iteF ?_⟩
    refine ⟨_, rfl, _, _, rfl, rfl, hb, _, rfl, iteF ?_⟩
    refine ⟨_, rfl, p, _, rfl, .inr (SqT.of hp), _, rfl, _, _, .ref b, rfl, rfl, ⟨es, en, _, kd.at_, kd.lit, hb, rfl⟩, b, xs, rfl, .inr (hq _), _, _, rfl, rfl, _, rfl, ifn (fun c => ?_) (fun _ => ?_)⟩
    · refine absurd ?_ c
      rw [List.length_map, hps.len, nums_len]
      first | done | rfl
    refine ⟨_, rfl, _, rfl, a, a.nums, p, rfl, .inr (SqT.of hp), nums_len, fun H1 s1 => ?_⟩
    rw [fault_ok ha]
    refine ⟨_, rfl, rfl, _, rfl, iteF ?_⟩
    refine ⟨_, rfl, _, rfl, x, _, dx, _, rfl, s1 _ _ hx, T.cl_Wrap, T.na_Wrap_kind, by decide, ?_⟩
    refine ⟨_, rfl, _, rfl, x, _, dx, _, rfl, upd_same, T.cl_Wrap, T.na_Wrap_numbers, (show (1 : Nat) < 1000 by decide), ?_⟩
    obtain ⟨H3, e3, hx3, kp3⟩ : ∃ H3, upd (upd H1 x (.ins (He.ga K "Wrap") dx (putF "kind" (.str a.kind) []))) x (.ins (He.ga K "Wrap") dx (putF "numbers" (.ref p) (putF "kind" (.str a.kind) []))) = H3 ∧ H3 x = some (.ins (He.ga K "Wrap") dx [("kind", .str a.kind), ("numbers", .ref p)]) ∧ Kp x H H3 :=
      ⟨_, rfl, upd_same, Kp.set (Kp.set fun b o n e => s1 _ _ e)⟩
    rw [e3]
    have npx : p ≠ x := fun z => by
      rw [z, hx] at hp
      cases hp
    have hp3 : H3 p = some (.tup (a.nums.map V.int)) := kp3 _ _ npx hp
    refine ⟨⟨_, rfl⟩, _, rfl, _, rfl, p, rfl, ⟨_, SqT.of hp3⟩, fun D hD => ?_⟩
    refine lc_tup (K := K) (a := p) (xs := a.nums.map V.int) (Pv := fun i H' => Same H3 H' ∧ H' D = some (.lst ((a.nums.take i).map fun z => V.str (toString z)))) ⟨fun z o e => by rw [upd_ne (ne_of_none e hD)]; exact e, upd_same⟩ (fun i H' _ h => SqT.of (h.1 _ _ hp3)) ?_ ?_
    · rintro i y H' hi ⟨hs, hl⟩
      obtain ⟨n, hn, rfl⟩ : ∃ n, a.nums[i]? = some n ∧ y = V.int n := by
        rw [List.getElem?_map] at hi
        cases e : a.nums[i]? with
        | none =>
          rw [e] at hi
          cases hi
        | some n =>
          rw [e] at hi
          exact ⟨n, rfl, (Option.some.inj hi).symm⟩
      have hb := nums_small ha n (List.mem_of_getElem? hn)
      have hlen : a.nums.length ≤ 2 := by cases a <;> simp [Wr.nums]
      have hil : i < a.nums.length := by
        rcases List.getElem?_eq_some_iff.mp hn with ⟨z, _⟩
        exact z
      refine ⟨rfl, _, rfl, .inr ⟨n, rfl, log2_small hb.1 (by omega), _, hl, ?_, fun z o e => ?_, ?_⟩⟩
      · rw [List.length_map, List.length_take, sizeLine_eq]
        omega
      · rw [upd_ne (ne_of_none e hD)]
        exact hs _ _ e
      · rw [upd_same, List.take_succ, hn, List.map_append]
        rfl
    · rintro H' ⟨hs, hl⟩
      rw [List.length_map, List.take_length] at hl
      refine ⟨D, _, rfl, .inr (SqL.of hl), ?_, fun l hl2 => ?_⟩
      · have hlen : a.nums.length ≤ 2 := by cases a <;> simp [Wr.nums]
        simp
        rw [sizeLine_eq]
        omega
      have el : V.str a.kind :: (a.nums.map (fun z => V.str (toString z)) ++ []) = (a.kind :: a.nums.map fun z => (toString z : Str)).map V.str := by simp
      refine ⟨_, l, a.kind :: a.nums.map (fun z => (toString z : Str)), rfl, rfl, .inl (SqL.of (by rw [← el]; exact upd_same)), ?_, ?_⟩
      · have h1 := sum_short a.nums (fun z hz => by have := nums_small ha z hz; omega)
        have hlen : a.nums.length ≤ 2 := by cases a <;> simp [Wr.nums]
        have hk : a.kind.length ≤ 6 := kind_len a
        simp only [List.map_cons, List.sum_cons, List.length_cons, List.length_map]
        have h2 : (" " : Str).length = 1 := by decide
        rw [h2]
        omega
      · have hx5 : (upd H' l (.lst (V.str a.kind :: (a.nums.map (fun z => V.str (toString z)) ++ [])))) x = some (.ins (He.ga K "Wrap") dx [("kind", .str a.kind), ("numbers", .ref p)]) := by rw [upd_ne (ne_of_none (hs _ _ hx3) hl2)]; exact hs _ _ hx3
        refine ⟨_, rfl, x, _, dx, _, rfl, hx5, T.cl_Wrap, T.na_Wrap_words, (show (2 : Nat) < 1000 by decide), ?_⟩
        refine k _ (fun z o n e => ?_) upd_same
        have ez := hs _ _ (kp3 z o n e)
        rw [upd_ne n, upd_ne (ne_of_none ez hl2)]
        exact ez
  · obtain ⟨a, rfl, ha, k⟩ := h
    refine ⟨_, _, rfl, ?_, fun x dx p hx hdx nd np npd hp => ?_⟩
    · rw [List.length_map, sizeLine_eq]
      have hlen : a.nums.length ≤ 2 := by cases a <;> simp [Wr.nums]
      omega
    refine ⟨a, x, p, dx, rfl, ha, by rw [upd_ne (Ne.symm np)]; exact upd_same, upd_same, fun H' kp hx' => ⟨rfl, ?_⟩⟩
    refine k x H' hx (fun z o e => ?_) ⟨dx, p, hx', kp _ _ np upd_same⟩
    have n1 : z ≠ x := ne_of_none e hx
    refine kp _ _ n1 ?_
    rw [upd_ne (ne_of_none e hp), upd_ne n1, upd_ne (ne_of_none e hdx)]
    exact e
end
/-! ### sizes by wraps -/
def spBegun : Sp := fun vs H Q _ => ∃ n m : Int, vs = [.int n, .int m] ∧ 1 ≤ m ∧ m ≤ 1000 ∧ Q (.int (beg n m)) H
def spPieces : Sp := fun vs H Q _ => ∃ n m c b : Int, vs = [.int n, .int m, .int c, .int b] ∧ 0 ≤ n ∧ 1 ≤ m ∧ m ≤ 60 ∧ 0 ≤ c ∧ c ≤ 60 ∧ 2 ≤ b ∧ b ≤ 256 ∧ Q (.int ((Wr.pieces m c).gr b n)) H
def spGrown (K : PySem.W.Frag) : Sp := fun vs H Q _ => ∃ (a : Wr) (q : Addr) (n b : Int), vs = [.ref q, .int n, .int b] ∧ WrapAt K H q a ∧ a.ok ∧ 2 ≤ b ∧ b ≤ 256 ∧ 0 ≤ n ∧ n < 2 ^ 3000 ∧ Q (.int (a.gr b n)) H
def spSize (K : PySem.W.Frag) : Sp := fun vs H Q _ => ∃ (a : Wr) (q : Addr) (n b : Int), vs = [.ref q, .int n, .int b] ∧ WrapAt K H q a ∧ a.ok ∧ 2 ≤ b ∧ b ≤ 256 ∧ 0 ≤ n ∧ n ≤ 10 ^ 60 - 1 ∧ Q (.int (a.gr b n)) H
theorem ifs_neg {x y : Str} {A B : Prop} (h : x ≠ y) (hB : B) : if decide (V.str x = V.str y) = true then A else B := by
  rw [decide_eq_false (fun z => h (by injection z)), if_neg Bool.false_ne_true]
  exact hB
theorem nums_first {a : Wr} : ∃ m, (a.nums.map V.int)[0]? = some (.int m) ∧ ∃ l, atI (a.nums.map V.int) (-1) = some (.int l) := by
  cases a <;> exact ⟨_, rfl, _, rfl⟩
section
variable {P : Program} {w : World} {K : PySem.W.Frag} {mg : Str → Option Value} {base : Heap}
theorem ok_begun (T : Tx w K mg) : Prom P w K mg base CX0 1 "begun" s_begun ["length", "whole"] spBegun := by
  refine Prom.of T.d_begun sc_begun (fun vs H Q E h => ?_) (fun _ _ _ _ _ _ us hl => match us, hl with | [_, _], _ => rfl) (fun f cdv A outer s H vs Q E hr h => ?_)
  · obtain ⟨n, m, rfl, _⟩ := h
    rfl
  · obtain ⟨n, m, rfl, h0, h1, k⟩ := h
    refine ⟨_, (pss_one (ps_ret (pe_op op_fdiv (pe_op op_sub (pe_op op_add (pv 0) (pv 1)) pe_int) (pv 1)))), ?_⟩
    exact ⟨_, rfl, _, rfl, _, _, rfl, rfl, _, _, rfl, rfl, _, rfl, _, _, rfl, rfl, ⟨by omega, by omega⟩, k⟩
theorem ok_in_pieces (T : Tx w K mg) : Prom P w K mg base CX0 2 "in_pieces" s_in_pieces ["length", "most", "constant", "base"] spPieces := by
  refine Prom.of T.d_in_pieces sc_in_pieces (fun vs H Q E h => ?_) (fun _ _ _ _ _ _ us hl => match us, hl with | [_, _, _, _], _ => rfl) (fun f cdv A outer s H vs Q E hr h => ?_)
  · obtain ⟨n, m, c, b, rfl, _⟩ := h
    rfl
  · obtain ⟨n, m, c, b, rfl, n0, m0, m1, c0, c1, b0, b1, k⟩ := h
    have f1 := fig_small (b := b) (m := m) b0 m1
    have f2 := figF_pos (b := b) (n := m) b0
    have r0 := Int.emod_nonneg n (show m ≠ 0 by omega)
    have r1 := Int.emod_lt_of_pos n (show 0 < m by omega)
    have big : ∀ x : Int, x ≤ 60 → x < 2 ^ 4000 := fun x hx => Int.lt_of_le_of_lt hx (by decide)
    refine ⟨_, (pss_cons (ps_set (i := 4) sc_in_pieces.nd rfl (Or.inl rfl) (pe_op op_mul (pe_op op_fdiv (pv 0) (pv 1)) (pe_op op_add (pe_op op_add (pv 1) (pv 2)) (pe_callP (ok_figures_of T) (hr.mono (by decide)) (by rfl) pass0 (pa_cons (pv 1) (pa_cons (pv 3) pa_nil))))))
      (pss_cons (ps_set (i := 5) sc_in_pieces.nd rfl (Or.inl rfl) (pe_op op_mod (pe_callTy call_int1 (by rfl) T.b_int (by decide +kernel) (pa_cons (pv 0) pa_nil)) (pv 1)))
      (pss_cons (ps_if (pt_cmp (pc_gt (pv 5) pe_int)) (pss_one (ps_set (i := 4) sc_in_pieces.nd rfl (Or.inl rfl) (pe_op op_add (pe_op op_add (pe_op op_add (pv 4) (pv 5)) (pv 2)) (pe_callP (ok_figures_of T) (hr.mono (by decide)) (by rfl) pass0 (pa_cons (pv 5) (pa_cons (pv 3) pa_nil)))))) pss_nil)
      (pss_one (ps_ret (pe_op op_add (pe_op op_add (pv 4) (pv 2)) pe_int)))))), ?_⟩
    refine ⟨_, rfl, _, rfl, _, _, rfl, rfl, ⟨by omega, by omega⟩, _, rfl, _, rfl, _, _, rfl, rfl, _, rfl, _, rfl, m, b, rfl, b0, b1, big m m1, fun g hg => ?_⟩
    have eg := figF_eq b0 hg
    subst eg
    refine ⟨_, _, rfl, rfl, _, _, rfl, rfl, .inr ⟨by omega, by omega⟩, ?_⟩
    refine ⟨_, rfl, .inl ⟨_, rfl, _, rfl, _, _, rfl, rfl, (show 0 < m by omega), ?_⟩⟩
    simp only [Wr.gr] at k
    refine ⟨_, rfl, _, _, rfl, rfl, _, rfl, ifd (fun h1 => ?_) (fun h1 => ?_)⟩
    · have h1 : 0 < n % m := h1
      rw [if_pos h1] at k
      refine ⟨_, rfl, _, rfl, _, _, rfl, rfl, _, rfl, _, _, rfl, rfl, _, rfl, _, rfl, n % m, b, rfl, b0, b1, big _ (by omega), fun g hg => ?_⟩
      have eg := figF_eq b0 hg
      subst eg
      refine ⟨_, _, rfl, rfl, ?_⟩
      refine ⟨_, rfl, _, rfl, _, _, rfl, rfl, _, _, rfl, rfl, ?_⟩
      have e : n / m * (m + c + figF b m) + n % m + c + figF b (n % m) + c + 1 = n / m * (m + c + figF b m) + (n % m + c + figF b (n % m)) + c + 1 := by omega
      rw [← e] at k
      exact k
    · have h1 : ¬ 0 < n % m := h1
      rw [if_neg h1] at k
      refine ⟨_, rfl, _, rfl, _, _, rfl, rfl, _, _, rfl, rfl, ?_⟩
      have e : n / m * (m + c + figF b m) + 0 + c + 1 = n / m * (m + c + figF b m) + c + 1 := by omega
      rw [e] at k
      exact k
theorem ok_Wrap_grown (T : Tx w K mg) : PromM P w K mg base CX0 3 "Wrap" "grown" ["self", "length", "base"] (spGrown K) := by
  refine PromM.of T.cl_Wrap T.me_Wrap_grown T.dm_Wrap_grown sc_Wrap_grown (fun vs H Q E h => ?_) (fun _ _ _ _ _ _ us hl => match us, hl with | [_, _, _], _ => rfl) (fun f cdv A outer s H vs Q E hr h => ?_)
  · obtain ⟨a, q, n, b, rfl, _⟩ := h
    rfl
  · obtain ⟨a, q, n, b, rfl, ⟨dx, p, hq, hp⟩, ha, b0, b1, n0, n1, k⟩ := h
    obtain ⟨x1, hm, x2, hl⟩ := nums_first (a := a)
    refine ⟨_, (pss_cons (ps_par (i := 3) (j := 4) (by rfl) sc_Wrap_grown.nd rfl rfl (by decide) rfl rfl (pa_cons (pe_ix ix_tup (pe_fld (pv 0) rfl) pe_int (fun _ _ => rfl)) (pa_cons (pe_ix ix_tup (pe_fld (pv 0) rfl) (pe_un un_neg pe_int) (fun _ _ => rfl)) pa_nil)) (by rfl))
      (pss_cons (ps_if (pt_cmpR op_eq (pe_fld (pv 0) rfl) pe_str (nomark _)) (pss_one (ps_ret (pe_op op_add (pv 1) (pv 3)))) pss_nil)
      (pss_cons (ps_if (pt_cmpR op_eq (pe_fld (pv 0) rfl) pe_str (nomark _)) (pss_one (ps_ret (pe_op op_add (pe_op op_add (pv 1) (pv 3)) (pe_callP (ok_figures_of T) (hr.mono (by decide)) (by rfl) pass0 (pa_cons (pv 1) (pa_cons (pv 2) pa_nil)))))) pss_nil)
      (pss_cons (ps_if (pt_cmpR op_eq (pe_fld (pv 0) rfl) pe_str (nomark _)) (pss_one (ps_ret (pe_callP (ok_total_of T) (hr.mono (by decide)) (by rfl) pass0 (pa_cons (pe_op op_add (pv 1) (pv 3)) (pa_cons (pv 2) pa_nil))))) pss_nil)
      (pss_cons (ps_if (pt_cmpR op_eq (pe_fld (pv 0) rfl) pe_str (nomark _)) (pss_one (ps_ret (pe_op op_mul (pe_callP (ok_begun T) (hr.mono (by decide)) (by rfl) pass0 (pa_cons (pv 1) (pa_cons (pv 3) pa_nil))) (pv 4)))) pss_nil)
      (pss_cons (ps_if (pt_cmpR op_eq (pe_fld (pv 0) rfl) pe_str (nomark _)) (pss_one (ps_ret (pe_op op_mul (pe_callP (ok_begun T) (hr.mono (by decide)) (by rfl) pass0 (pa_cons (pv 1) (pa_cons (pv 3) pa_nil))) (pv 3)))) pss_nil)
      (pss_cons (ps_if (pt_cmpR op_eq (pe_fld (pv 0) rfl) pe_str (nomark _)) (pss_one (ps_ret (pe_op op_add (pv 1) (pe_op op_mul (pe_callP (ok_begun T) (hr.mono (by decide)) (by rfl) pass0 (pa_cons (pv 1) (pa_cons (pv 3) pa_nil))) (pv 4))))) pss_nil)
      (pss_one (ps_ret (pe_callP (ok_in_pieces T) (hr.mono (by decide)) (by rfl) pass0 (pa_cons (pv 1) (pa_cons (pv 3) (pa_cons (pv 4) (pa_cons (pv 2) pa_nil)))))))))))))), ?_⟩
    refine ⟨_, rfl, q, _, dx, _, _, rfl, hq, T.cl_Wrap, T.na_Wrap_numbers, rfl, p, _, _, _, rfl, rfl, SqT.of hp, atI_nat (j := 0) hm, ?_⟩
    have big : ∀ x : Int, x ≤ n → x < 2 ^ 4000 := fun x hx => Int.lt_of_lt_of_le (show x < 2 ^ 3000 by omega) (by decide)
    refine ⟨_, rfl, q, _, dx, _, _, rfl, hq, T.cl_Wrap, T.na_Wrap_numbers, rfl, _, rfl, p, _, _, _, rfl, rfl, SqT.of hp, hl, _, _, rfl, ?_⟩
    cases a with
    | plus c =>
      have e1 : c = x1 := by injection hm with z; injection z
      have e2 : c = x2 := by injection hl with z; injection z
      subst e1 e2
      simp only [Wr.ok] at ha
      refine ⟨_, rfl, q, _, dx, _, _, rfl, hq, T.cl_Wrap, T.na_Wrap_kind, rfl, rfl, _, rfl, ifd_pos rfl ?_⟩
      exact ⟨_, rfl, _, rfl, _, _, rfl, rfl, k⟩
    | told c =>
      have e1 : c = x1 := by injection hm with z; injection z
      have e2 : c = x2 := by injection hl with z; injection z
      subst e1 e2
      simp only [Wr.ok] at ha
      refine ⟨_, rfl, q, _, dx, _, _, rfl, hq, T.cl_Wrap, T.na_Wrap_kind, rfl, rfl, _, rfl, ifs_neg (show ("told" : Str) ≠ "plus" by decide) ?_⟩
      refine ⟨_, rfl, q, _, dx, _, _, rfl, hq, T.cl_Wrap, T.na_Wrap_kind, rfl, rfl, _, rfl, ifd_pos rfl ?_⟩
      refine ⟨_, rfl, _, rfl, _, _, rfl, rfl, _, rfl, _, rfl, n, b, rfl, b0, b1, big n (by omega), fun g hg => ?_⟩
      have eg := figF_eq b0 hg
      subst eg
      exact ⟨_, _, rfl, rfl, k⟩
    | whole c =>
      have e1 : c = x1 := by injection hm with z; injection z
      have e2 : c = x2 := by injection hl with z; injection z
      subst e1 e2
      simp only [Wr.ok] at ha
      refine ⟨_, rfl, q, _, dx, _, _, rfl, hq, T.cl_Wrap, T.na_Wrap_kind, rfl, rfl, _, rfl, ifs_neg (show ("whole" : Str) ≠ "plus" by decide) ?_⟩
      refine ⟨_, rfl, q, _, dx, _, _, rfl, hq, T.cl_Wrap, T.na_Wrap_kind, rfl, rfl, _, rfl, ifs_neg (show ("whole" : Str) ≠ "told" by decide) ?_⟩
      refine ⟨_, rfl, q, _, dx, _, _, rfl, hq, T.cl_Wrap, T.na_Wrap_kind, rfl, rfl, _, rfl, ifd_pos rfl ?_⟩
      refine ⟨_, rfl, _, rfl, _, _, rfl, rfl, _, rfl, n + c, b, rfl, b0, b1, by omega, Int.lt_of_lt_of_le (show n + c < 2 ^ 3000 + 1001 by omega) (by decide), fun s hs _ => ?_⟩
      have eg := totF_eq b0 (show 0 ≤ n + c by omega) hs
      subst eg
      exact k
    | pieces m c =>
      have e1 : m = x1 := by injection hm with z; injection z
      have e2 : c = x2 := by injection hl with z; injection z
      subst e1 e2
      simp only [Wr.ok] at ha
      refine ⟨_, rfl, q, _, dx, _, _, rfl, hq, T.cl_Wrap, T.na_Wrap_kind, rfl, rfl, _, rfl, ifs_neg (show ("pieces" : Str) ≠ "plus" by decide) ?_⟩
      refine ⟨_, rfl, q, _, dx, _, _, rfl, hq, T.cl_Wrap, T.na_Wrap_kind, rfl, rfl, _, rfl, ifs_neg (show ("pieces" : Str) ≠ "told" by decide) ?_⟩
      refine ⟨_, rfl, q, _, dx, _, _, rfl, hq, T.cl_Wrap, T.na_Wrap_kind, rfl, rfl, _, rfl, ifs_neg (show ("pieces" : Str) ≠ "whole" by decide) ?_⟩
      refine ⟨_, rfl, q, _, dx, _, _, rfl, hq, T.cl_Wrap, T.na_Wrap_kind, rfl, rfl, _, rfl, ifs_neg (show ("pieces" : Str) ≠ "coded" by decide) ?_⟩
      refine ⟨_, rfl, q, _, dx, _, _, rfl, hq, T.cl_Wrap, T.na_Wrap_kind, rfl, rfl, _, rfl, ifs_neg (show ("pieces" : Str) ≠ "filled" by decide) ?_⟩
      refine ⟨_, rfl, q, _, dx, _, _, rfl, hq, T.cl_Wrap, T.na_Wrap_kind, rfl, rfl, _, rfl, ifs_neg (show ("pieces" : Str) ≠ "cut" by decide) ?_⟩
      exact ⟨_, rfl, _, rfl, _, rfl, _, rfl, n, m, c, b, rfl, n0, by omega, by omega, by omega, by omega, b0, b1, k⟩
    | cut m c =>
      have e1 : m = x1 := by injection hm with z; injection z
      have e2 : c = x2 := by injection hl with z; injection z
      subst e1 e2
      simp only [Wr.ok] at ha
      refine ⟨_, rfl, q, _, dx, _, _, rfl, hq, T.cl_Wrap, T.na_Wrap_kind, rfl, rfl, _, rfl, ifs_neg (show ("cut" : Str) ≠ "plus" by decide) ?_⟩
      refine ⟨_, rfl, q, _, dx, _, _, rfl, hq, T.cl_Wrap, T.na_Wrap_kind, rfl, rfl, _, rfl, ifs_neg (show ("cut" : Str) ≠ "told" by decide) ?_⟩
      refine ⟨_, rfl, q, _, dx, _, _, rfl, hq, T.cl_Wrap, T.na_Wrap_kind, rfl, rfl, _, rfl, ifs_neg (show ("cut" : Str) ≠ "whole" by decide) ?_⟩
      refine ⟨_, rfl, q, _, dx, _, _, rfl, hq, T.cl_Wrap, T.na_Wrap_kind, rfl, rfl, _, rfl, ifs_neg (show ("cut" : Str) ≠ "coded" by decide) ?_⟩
      refine ⟨_, rfl, q, _, dx, _, _, rfl, hq, T.cl_Wrap, T.na_Wrap_kind, rfl, rfl, _, rfl, ifs_neg (show ("cut" : Str) ≠ "filled" by decide) ?_⟩
      refine ⟨_, rfl, q, _, dx, _, _, rfl, hq, T.cl_Wrap, T.na_Wrap_kind, rfl, rfl, _, rfl, ifd_pos rfl ?_⟩
      exact ⟨_, rfl, _, rfl, _, rfl, n, m, rfl, by omega, by omega, _, rfl, _, _, rfl, rfl, .inr ⟨by omega, by omega⟩, _, _, rfl, rfl, k⟩
    | coded m c =>
      have e1 : m = x1 := by injection hm with z; injection z
      have e2 : c = x2 := by injection hl with z; injection z
      subst e1 e2
      simp only [Wr.ok] at ha
      refine ⟨_, rfl, q, _, dx, _, _, rfl, hq, T.cl_Wrap, T.na_Wrap_kind, rfl, rfl, _, rfl, ifs_neg (show ("coded" : Str) ≠ "plus" by decide) ?_⟩
      refine ⟨_, rfl, q, _, dx, _, _, rfl, hq, T.cl_Wrap, T.na_Wrap_kind, rfl, rfl, _, rfl, ifs_neg (show ("coded" : Str) ≠ "told" by decide) ?_⟩
      refine ⟨_, rfl, q, _, dx, _, _, rfl, hq, T.cl_Wrap, T.na_Wrap_kind, rfl, rfl, _, rfl, ifs_neg (show ("coded" : Str) ≠ "whole" by decide) ?_⟩
      refine ⟨_, rfl, q, _, dx, _, _, rfl, hq, T.cl_Wrap, T.na_Wrap_kind, rfl, rfl, _, rfl, ifd_pos rfl ?_⟩
      exact ⟨_, rfl, _, rfl, n, m, rfl, by omega, by omega, _, rfl, _, _, rfl, rfl, .inr ⟨by omega, by omega⟩, k⟩
    | filled m =>
      have e1 : m = x1 := by injection hm with z; injection z
      have e2 : m = x2 := by injection hl with z; injection z
      subst e1 e2
      simp only [Wr.ok] at ha
      refine ⟨_, rfl, q, _, dx, _, _, rfl, hq, T.cl_Wrap, T.na_Wrap_kind, rfl, rfl, _, rfl, ifs_neg (show ("filled" : Str) ≠ "plus" by decide) ?_⟩
      refine ⟨_, rfl, q, _, dx, _, _, rfl, hq, T.cl_Wrap, T.na_Wrap_kind, rfl, rfl, _, rfl, ifs_neg (show ("filled" : Str) ≠ "told" by decide) ?_⟩
      refine ⟨_, rfl, q, _, dx, _, _, rfl, hq, T.cl_Wrap, T.na_Wrap_kind, rfl, rfl, _, rfl, ifs_neg (show ("filled" : Str) ≠ "whole" by decide) ?_⟩
      refine ⟨_, rfl, q, _, dx, _, _, rfl, hq, T.cl_Wrap, T.na_Wrap_kind, rfl, rfl, _, rfl, ifs_neg (show ("filled" : Str) ≠ "coded" by decide) ?_⟩
      refine ⟨_, rfl, q, _, dx, _, _, rfl, hq, T.cl_Wrap, T.na_Wrap_kind, rfl, rfl, _, rfl, ifd_pos rfl ?_⟩
      exact ⟨_, rfl, _, rfl, n, m, rfl, by omega, by omega, _, rfl, _, _, rfl, rfl, .inr ⟨by omega, by omega⟩, k⟩
end
/-! ### stacks -/
def stepF (p : Int) : Wr → Int
  | .coded m c => p * m * c
  | .pieces m _ => p * m
  | .cut m _ => p * m
  | .filled m => p * m
  | _ => p
def fineL (ws : List Wr) : Int := ws.foldl stepF 1
inductive WrapsAt (K : PySem.W.Frag) (H : Hp) : List V → List Wr → Prop where
  | nil : WrapsAt K H [] []
  | cons {a : Addr} {x : Wr} {xs : List V} {ws : List Wr} (h : WrapAt K H a x) (r : WrapsAt K H xs ws) : WrapsAt K H (.ref a :: xs) (x :: ws)
theorem WrapsAt.len {K : PySem.W.Frag} {H : Hp} {xs : List V} {ws : List Wr} (h : WrapsAt K H xs ws) : xs.length = ws.length := by
  induction h with
  | nil => rfl
  | cons _ _ ih => exact congrArg (· + 1) ih
theorem WrapsAt.get {K : PySem.W.Frag} {H : Hp} {xs : List V} {ws : List Wr} (h : WrapsAt K H xs ws) : ∀ {i : Nat} {x : V}, xs[i]? = some x → ∃ (a : Addr) (y : Wr), x = .ref a ∧ ws[i]? = some y ∧ WrapAt K H a y := by
  induction h with
  | nil =>
    intro i x e
    simp at e
  | cons h _ ih =>
    intro i x e
    cases i with
    | zero =>
      simp at e
      exact ⟨_, _, e.symm, rfl, h⟩
    | succ i => exact ih (by simpa using e)
theorem WrapsAt.same {K : PySem.W.Frag} {H H' : Hp} {xs : List V} {ws : List Wr} (h : WrapsAt K H xs ws) (s : Same H H') : WrapsAt K H' xs ws := by
  induction h with
  | nil => exact .nil
  | cons h _ ih => exact .cons (h.same s) ih
theorem WrapsAt.snoc {K : PySem.W.Frag} {H : Hp} {xs : List V} {ws : List Wr} {a : Addr} {x : Wr} (h : WrapsAt K H xs ws) (hx : WrapAt K H a x) : WrapsAt K H (xs ++ [.ref a]) (ws ++ [x]) := by
  induction h with
  | nil => exact .cons hx .nil
  | cons h _ ih => exact .cons h ih
def stkFs (b : Int) (t : Addr) (ws : List Wr) : List (Str × V) := [("base", .int b), ("wraps", .ref t), ("fineness", .int (fineL ws))]
structure StkOk (b : Int) (ws : List Wr) : Prop where
  b0 : 2 ≤ b
  b1 : b ≤ 256
  ok : ∀ a ∈ ws, a.ok
  len : ws.length ≤ 6
  fine : fineL ws ≤ 120
/-- a stack stands there -/
def StkAt (K : PySem.W.Frag) (H : Hp) (q : Addr) (b : Int) (ws : List Wr) : Prop := ∃ dx t xs, H q = some (.ins (He.ga K "Stack") dx (stkFs b t ws)) ∧ H t = some (.tup xs) ∧ WrapsAt K H xs ws
theorem StkAt.same {K : PySem.W.Frag} {H H' : Hp} {q : Addr} {b : Int} {ws : List Wr} (h : StkAt K H q b ws) (s : Same H H') : StkAt K H' q b ws := by
  obtain ⟨dx, t, xs, h1, h2, h3⟩ := h
  exact ⟨dx, t, xs, s _ _ h1, s _ _ h2, h3.same s⟩
/-- the size behind all wraps -/
noncomputable def grS (b : Int) (ws : List Wr) (n : Int) : Int := ws.foldl (fun m a => a.gr b m) n
def spFine (K : PySem.W.Frag) : Sp := fun vs H Q _ => ∃ (t : Addr) (xs : List V) (ws : List Wr), vs = [.ref t] ∧ (SqL K H t xs ∨ SqT K H t xs) ∧ WrapsAt K H xs ws ∧ (∀ a ∈ ws, a.ok) ∧ ∀ H', Same H H' → Q (.int (fineL ws)) H'
def spWraps (K : PySem.W.Frag) : Sp := fun vs H Q _ => ∃ (t : Addr) (xs : List V) (ws : List Wr), vs = [.ref t, .int 6] ∧ SqT K H t xs ∧ WrapsAt K H xs ws ∧ ws.length ≤ 6 ∧ ∀ H', Same H H' → Q .non H'
section
variable {P : Program} {w : World} {K : PySem.W.Frag} {mg : Str → Option Value} {base : Heap}
theorem up {H' : Hp} {z : Addr} {o : HO} (hz : H' z = none) : Same H' (upd H' z o) := fun y u e => by
  rw [upd_ne (ne_of_none e hz)]
  exact e
theorem ifb_pos {b : Bool} {A B : Prop} (h : b = true) (a : A) : if b = true then A else B := by
  rw [if_pos h]
  exact a
theorem ifb_neg {b : Bool} {A B : Prop} (h : b = false) (a : B) : if b = true then A else B := by
  rw [h, if_neg Bool.false_ne_true]
  exact a
theorem ok_fineness_of (T : Tx w K mg) : Prom P w K mg base CX0 1 "fineness_of" s_fineness_of ["wraps"] (spFine K) := by
  refine Prom.of T.d_fineness_of sc_fineness_of (fun vs H Q E h => ?_) (fun _ _ _ _ _ _ us hl => match us, hl with | [_], _ => rfl) (fun f cdv A outer s H vs Q E hr h => ?_)
  · obtain ⟨t, xs, ws, rfl, _⟩ := h
    rfl
  · obtain ⟨t, xs, ws, rfl, hT, hw, ha, k⟩ := h
    have inv : True := trivial
    refine ⟨_, (pss_cons (ps_set (i := 1) sc_fineness_of.nd rfl (Or.inl rfl) pe_int)
      (pss_cons (ps_for PassesOwn.never (by rfl) (pi_seq (pv 0)) (pg_name (i := 2) sc_fineness_of.nd rfl (Or.inl rfl)) (pss_one (ps_if (pt_cmpR op_eq (pe_fld (pv 2) rfl) pe_str (nomark _)) (pss_one (ps_set (i := 1) sc_fineness_of.nd rfl (Or.inl rfl) (pe_op op_mul (pe_op op_mul (pv 1) (pe_ix ix_tup (pe_fld (pv 2) rfl) pe_int (fun _ _ => rfl))) (pe_ix ix_tup (pe_fld (pv 2) rfl) pe_int (fun _ _ => rfl))))) (pss_one (ps_if (pt_cmpR op_in_seq (pe_fld (pv 2) rfl) (pe_tup (pa_cons pe_str (pa_cons pe_str (pa_cons pe_str pa_nil)))) (by rfl)) (pss_one (ps_set (i := 1) sc_fineness_of.nd rfl (Or.inl rfl) (pe_op op_mul (pv 1) (pe_ix ix_tup (pe_fld (pv 2) rfl) pe_int (fun _ _ => rfl))))) pss_nil)))))
      (pss_one (ps_ret (pv 1))))), ?_⟩
    rcases hT with hT | hT
    · have hT' : ∀ {H' : Hp}, Same H H' → SqL K H' t xs := fun {H'} hs => hs.seq hT
      refine .inl ⟨_, rfl, t, rfl, ⟨_, hT⟩, for_it (walk_list (K := K) (a := t) (xs := xs)) (fun i σ H' => Same H H' ∧ ∃ v, σ = [some (.ref t), some (.int ((ws.take i).foldl stepF 1)), v]) ⟨Same.refl H, none, rfl⟩ (fun _ _ H' _ h => hT' h.1) ?_ ?_⟩
      · rintro i x σ H1 H2 hi ⟨hs, v, rfl⟩ ⟨rfl, hx⟩
        obtain ⟨q, a, rfl, hq, hw1⟩ := hw.get hx
        have hok := ha a (List.mem_of_getElem? hq)
        obtain ⟨dx, p, h1, h2⟩ := hw1.same hs
        have et : (ws.take (i + 1)).foldl stepF 1 = stepF ((ws.take i).foldl stepF 1) a := by
          rw [List.take_succ, hq, List.foldl_append]
          rfl
        generalize (ws.take i).foldl stepF 1 = m at et ⊢
        rw [et]
        have num : ∀ {j : Nat} {n : Int}, a.nums[j]? = some n → atI (a.nums.map V.int) ((j : Nat) : Int) = some (.int n) := fun {j n} hj => atI_nat (by rw [List.getElem?_map, hj]; rfl)
        refine ⟨_, rfl, q, _, dx, _, _, rfl, h1, T.cl_Wrap, T.na_Wrap_kind, rfl, rfl, _, rfl, ?_⟩
        cases a with
        | coded m' c =>
          refine ifd_pos rfl ?_
          simp only [Wr.ok] at hok
          refine ⟨_, rfl, _, rfl, q, _, dx, _, _, rfl, h1, T.cl_Wrap, T.na_Wrap_numbers, rfl, p, _, _, _, rfl, rfl, SqT.of h2, num (j := 0) rfl, _, _, rfl, rfl, .inr ⟨by omega, by omega⟩, ?_⟩
          refine ⟨_, rfl, q, _, dx, _, _, rfl, h1, T.cl_Wrap, T.na_Wrap_numbers, rfl, p, _, _, _, rfl, rfl, SqT.of h2, num (j := 1) rfl, _, _, rfl, rfl, .inr ⟨by omega, by omega⟩, ?_⟩
          exact ⟨hs, _, rfl⟩
        | plus c =>
          refine ifs_neg (show ("plus" : Str) ≠ "coded" by decide) ?_
          refine ⟨_, rfl, q, _, dx, _, _, rfl, h1, T.cl_Wrap, T.na_Wrap_kind, rfl, (by show 3 ≤ sizeLine; decide), fun t2 ht2 => ?_⟩
          refine ⟨t2, _, rfl, .inr (SqT.of upd_same), rfl, rfl, _, rfl, ifb_neg (by kernel_rfl) ?_⟩
          exact ⟨hs.trans (up ht2), _, rfl⟩
        | told c =>
          refine ifs_neg (show ("told" : Str) ≠ "coded" by decide) ?_
          refine ⟨_, rfl, q, _, dx, _, _, rfl, h1, T.cl_Wrap, T.na_Wrap_kind, rfl, (by show 3 ≤ sizeLine; decide), fun t2 ht2 => ?_⟩
          refine ⟨t2, _, rfl, .inr (SqT.of upd_same), rfl, rfl, _, rfl, ifb_neg (by kernel_rfl) ?_⟩
          exact ⟨hs.trans (up ht2), _, rfl⟩
        | whole c =>
          refine ifs_neg (show ("whole" : Str) ≠ "coded" by decide) ?_
          refine ⟨_, rfl, q, _, dx, _, _, rfl, h1, T.cl_Wrap, T.na_Wrap_kind, rfl, (by show 3 ≤ sizeLine; decide), fun t2 ht2 => ?_⟩
          refine ⟨t2, _, rfl, .inr (SqT.of upd_same), rfl, rfl, _, rfl, ifb_neg (by kernel_rfl) ?_⟩
          exact ⟨hs.trans (up ht2), _, rfl⟩
        | pieces m' c =>
          refine ifs_neg (show ("pieces" : Str) ≠ "coded" by decide) ?_
          simp only [Wr.ok] at hok
          refine ⟨_, rfl, q, _, dx, _, _, rfl, h1, T.cl_Wrap, T.na_Wrap_kind, rfl, (by show 3 ≤ sizeLine; decide), fun t2 ht2 => ?_⟩
          refine ⟨t2, _, rfl, .inr (SqT.of upd_same), rfl, rfl, _, rfl, ifb_pos (by kernel_rfl) ?_⟩
          have g1 := (up ht2 (o := .tup [V.str "pieces", V.str "cut", V.str "filled"])) _ _ h1
          have g2 := (up ht2 (o := .tup [V.str "pieces", V.str "cut", V.str "filled"])) _ _ h2
          refine ⟨_, rfl, _, rfl, q, _, dx, _, _, rfl, g1, T.cl_Wrap, T.na_Wrap_numbers, rfl, p, _, _, _, rfl, rfl, SqT.of g2, num (j := 0) rfl, _, _, rfl, rfl, .inr ⟨by omega, by omega⟩, ?_⟩
          exact ⟨hs.trans (up ht2), _, rfl⟩
        | cut m' c =>
          refine ifs_neg (show ("cut" : Str) ≠ "coded" by decide) ?_
          simp only [Wr.ok] at hok
          refine ⟨_, rfl, q, _, dx, _, _, rfl, h1, T.cl_Wrap, T.na_Wrap_kind, rfl, (by show 3 ≤ sizeLine; decide), fun t2 ht2 => ?_⟩
          refine ⟨t2, _, rfl, .inr (SqT.of upd_same), rfl, rfl, _, rfl, ifb_pos (by kernel_rfl) ?_⟩
          have g1 := (up ht2 (o := .tup [V.str "pieces", V.str "cut", V.str "filled"])) _ _ h1
          have g2 := (up ht2 (o := .tup [V.str "pieces", V.str "cut", V.str "filled"])) _ _ h2
          refine ⟨_, rfl, _, rfl, q, _, dx, _, _, rfl, g1, T.cl_Wrap, T.na_Wrap_numbers, rfl, p, _, _, _, rfl, rfl, SqT.of g2, num (j := 0) rfl, _, _, rfl, rfl, .inr ⟨by omega, by omega⟩, ?_⟩
          exact ⟨hs.trans (up ht2), _, rfl⟩
        | filled m' =>
          refine ifs_neg (show ("filled" : Str) ≠ "coded" by decide) ?_
          simp only [Wr.ok] at hok
          refine ⟨_, rfl, q, _, dx, _, _, rfl, h1, T.cl_Wrap, T.na_Wrap_kind, rfl, (by show 3 ≤ sizeLine; decide), fun t2 ht2 => ?_⟩
          refine ⟨t2, _, rfl, .inr (SqT.of upd_same), rfl, rfl, _, rfl, ifb_pos (by kernel_rfl) ?_⟩
          have g1 := (up ht2 (o := .tup [V.str "pieces", V.str "cut", V.str "filled"])) _ _ h1
          have g2 := (up ht2 (o := .tup [V.str "pieces", V.str "cut", V.str "filled"])) _ _ h2
          refine ⟨_, rfl, _, rfl, q, _, dx, _, _, rfl, g1, T.cl_Wrap, T.na_Wrap_numbers, rfl, p, _, _, _, rfl, rfl, SqT.of g2, num (j := 0) rfl, _, _, rfl, rfl, .inr ⟨by omega, by omega⟩, ?_⟩
          exact ⟨hs.trans (up ht2), _, rfl⟩
      · rintro σ H' ⟨hs, v, rfl⟩
        rw [hw.len, List.take_length]
        exact ⟨_, rfl, k _ hs⟩
    · have hT' : ∀ {H' : Hp}, Same H H' → SqT K H' t xs := fun {H'} hs => by
        rcases hT with (h | ⟨o, h⟩) | h
        · exact .inl (.inl (hs _ _ h))
        · exact .inl (.inr ⟨o, hs _ _ h⟩)
        · exact .inr h
      refine .inr ⟨_, rfl, t, rfl, ⟨_, hT⟩, for_it (walk_tup (K := K) (a := t) (xs := xs)) (fun i σ H' => Same H H' ∧ ∃ v, σ = [some (.ref t), some (.int ((ws.take i).foldl stepF 1)), v]) ⟨Same.refl H, none, rfl⟩ (fun _ _ H' _ h => hT' h.1) ?_ ?_⟩
      · rintro i x σ H1 H2 hi ⟨hs, v, rfl⟩ ⟨rfl, hx⟩
        obtain ⟨q, a, rfl, hq, hw1⟩ := hw.get hx
        have hok := ha a (List.mem_of_getElem? hq)
        obtain ⟨dx, p, h1, h2⟩ := hw1.same hs
        have et : (ws.take (i + 1)).foldl stepF 1 = stepF ((ws.take i).foldl stepF 1) a := by
          rw [List.take_succ, hq, List.foldl_append]
          rfl
        generalize (ws.take i).foldl stepF 1 = m at et ⊢
        rw [et]
        have num : ∀ {j : Nat} {n : Int}, a.nums[j]? = some n → atI (a.nums.map V.int) ((j : Nat) : Int) = some (.int n) := fun {j n} hj => atI_nat (by rw [List.getElem?_map, hj]; rfl)
        refine ⟨_, rfl, q, _, dx, _, _, rfl, h1, T.cl_Wrap, T.na_Wrap_kind, rfl, rfl, _, rfl, ?_⟩
        cases a with
        | coded m' c =>
          refine ifd_pos rfl ?_
          simp only [Wr.ok] at hok
          refine ⟨_, rfl, _, rfl, q, _, dx, _, _, rfl, h1, T.cl_Wrap, T.na_Wrap_numbers, rfl, p, _, _, _, rfl, rfl, SqT.of h2, num (j := 0) rfl, _, _, rfl, rfl, .inr ⟨by omega, by omega⟩, ?_⟩
          refine ⟨_, rfl, q, _, dx, _, _, rfl, h1, T.cl_Wrap, T.na_Wrap_numbers, rfl, p, _, _, _, rfl, rfl, SqT.of h2, num (j := 1) rfl, _, _, rfl, rfl, .inr ⟨by omega, by omega⟩, ?_⟩
          exact ⟨hs, _, rfl⟩
        | plus c =>
          refine ifs_neg (show ("plus" : Str) ≠ "coded" by decide) ?_
          refine ⟨_, rfl, q, _, dx, _, _, rfl, h1, T.cl_Wrap, T.na_Wrap_kind, rfl, (by show 3 ≤ sizeLine; decide), fun t2 ht2 => ?_⟩
          refine ⟨t2, _, rfl, .inr (SqT.of upd_same), rfl, rfl, _, rfl, ifb_neg (by kernel_rfl) ?_⟩
          exact ⟨hs.trans (up ht2), _, rfl⟩
        | told c =>
          refine ifs_neg (show ("told" : Str) ≠ "coded" by decide) ?_
          refine ⟨_, rfl, q, _, dx, _, _, rfl, h1, T.cl_Wrap, T.na_Wrap_kind, rfl, (by show 3 ≤ sizeLine; decide), fun t2 ht2 => ?_⟩
          refine ⟨t2, _, rfl, .inr (SqT.of upd_same), rfl, rfl, _, rfl, ifb_neg (by kernel_rfl) ?_⟩
          exact ⟨hs.trans (up ht2), _, rfl⟩
        | whole c =>
          refine ifs_neg (show ("whole" : Str) ≠ "coded" by decide) ?_
          refine ⟨_, rfl, q, _, dx, _, _, rfl, h1, T.cl_Wrap, T.na_Wrap_kind, rfl, (by show 3 ≤ sizeLine; decide), fun t2 ht2 => ?_⟩
          refine ⟨t2, _, rfl, .inr (SqT.of upd_same), rfl, rfl, _, rfl, ifb_neg (by kernel_rfl) ?_⟩
          exact ⟨hs.trans (up ht2), _, rfl⟩
        | pieces m' c =>
          refine ifs_neg (show ("pieces" : Str) ≠ "coded" by decide) ?_
          simp only [Wr.ok] at hok
          refine ⟨_, rfl, q, _, dx, _, _, rfl, h1, T.cl_Wrap, T.na_Wrap_kind, rfl, (by show 3 ≤ sizeLine; decide), fun t2 ht2 => ?_⟩
          refine ⟨t2, _, rfl, .inr (SqT.of upd_same), rfl, rfl, _, rfl, ifb_pos (by kernel_rfl) ?_⟩
          have g1 := (up ht2 (o := .tup [V.str "pieces", V.str "cut", V.str "filled"])) _ _ h1
          have g2 := (up ht2 (o := .tup [V.str "pieces", V.str "cut", V.str "filled"])) _ _ h2
          refine ⟨_, rfl, _, rfl, q, _, dx, _, _, rfl, g1, T.cl_Wrap, T.na_Wrap_numbers, rfl, p, _, _, _, rfl, rfl, SqT.of g2, num (j := 0) rfl, _, _, rfl, rfl, .inr ⟨by omega, by omega⟩, ?_⟩
          exact ⟨hs.trans (up ht2), _, rfl⟩
        | cut m' c =>
          refine ifs_neg (show ("cut" : Str) ≠ "coded" by decide) ?_
          simp only [Wr.ok] at hok
          refine ⟨_, rfl, q, _, dx, _, _, rfl, h1, T.cl_Wrap, T.na_Wrap_kind, rfl, (by show 3 ≤ sizeLine; decide), fun t2 ht2 => ?_⟩
          refine ⟨t2, _, rfl, .inr (SqT.of upd_same), rfl, rfl, _, rfl, ifb_pos (by kernel_rfl) ?_⟩
          have g1 := (up ht2 (o := .tup [V.str "pieces", V.str "cut", V.str "filled"])) _ _ h1
          have g2 := (up ht2 (o := .tup [V.str "pieces", V.str "cut", V.str "filled"])) _ _ h2
          refine ⟨_, rfl, _, rfl, q, _, dx, _, _, rfl, g1, T.cl_Wrap, T.na_Wrap_numbers, rfl, p, _, _, _, rfl, rfl, SqT.of g2, num (j := 0) rfl, _, _, rfl, rfl, .inr ⟨by omega, by omega⟩, ?_⟩
          exact ⟨hs.trans (up ht2), _, rfl⟩
        | filled m' =>
          refine ifs_neg (show ("filled" : Str) ≠ "coded" by decide) ?_
          simp only [Wr.ok] at hok
          refine ⟨_, rfl, q, _, dx, _, _, rfl, h1, T.cl_Wrap, T.na_Wrap_kind, rfl, (by show 3 ≤ sizeLine; decide), fun t2 ht2 => ?_⟩
          refine ⟨t2, _, rfl, .inr (SqT.of upd_same), rfl, rfl, _, rfl, ifb_pos (by kernel_rfl) ?_⟩
          have g1 := (up ht2 (o := .tup [V.str "pieces", V.str "cut", V.str "filled"])) _ _ h1
          have g2 := (up ht2 (o := .tup [V.str "pieces", V.str "cut", V.str "filled"])) _ _ h2
          refine ⟨_, rfl, _, rfl, q, _, dx, _, _, rfl, g1, T.cl_Wrap, T.na_Wrap_numbers, rfl, p, _, _, _, rfl, rfl, SqT.of g2, num (j := 0) rfl, _, _, rfl, rfl, .inr ⟨by omega, by omega⟩, ?_⟩
          exact ⟨hs.trans (up ht2), _, rfl⟩
      · rintro σ H' ⟨hs, v, rfl⟩
        rw [hw.len, List.take_length]
        exact ⟨_, rfl, k _ hs⟩
end
theorem gr_pow {b : Int} {a : Wr} (hb : 2 ≤ b) (h : a.ok) {n : Int} {k : Nat} (hk : 12 ≤ k) (hn : 0 ≤ n) (hn2 : n < 2 ^ k) : 0 ≤ a.gr b n ∧ a.gr b n < 2 ^ (k + 8) := by
  have g := gr_le hb h hn
  have e : (2 : Int) ^ (k + 8) = 2 ^ k * 256 := by rw [Int.pow_add]; rfl
  have e2 : (2 : Int) ^ 12 ≤ 2 ^ k := pow_mono (by decide) hk
  have e3 : (2 : Int) ^ 12 = 4096 := by decide
  omega
theorem grS_pow {b : Int} (hb : 2 ≤ b) : ∀ (ws : List Wr), (∀ a ∈ ws, a.ok) → ∀ {n : Int} {k : Nat}, 12 ≤ k → 0 ≤ n → n < 2 ^ k → 0 ≤ grS b ws n ∧ grS b ws n < 2 ^ (k + 8 * ws.length)
  | [], _, n, k, _, h0, h1 => ⟨h0, h1⟩
  | a :: ws, ha, n, k, hk, h0, h1 => by
    have g := gr_pow hb (ha a (List.mem_cons_self ..)) hk h0 h1
    have ih := grS_pow hb ws (fun x hx => ha x (List.mem_cons_of_mem _ hx)) (show 12 ≤ k + 8 by omega) g.1 g.2
    refine ⟨ih.1, ?_⟩
    have e : k + 8 + 8 * ws.length = k + 8 * (a :: ws).length := by simp; omega
    rw [e] at ih
    exact ih.2
def spStack0 (K : PySem.W.Frag) : Sp := fun vs H Q _ => ∃ (x p dx : Addr) (b : Int) (xs : List V) (ws : List Wr), vs = [.ref x, .int b, .ref p] ∧ StkOk b ws ∧ H x = some (.ins (He.ga K "Stack") dx []) ∧ H p = some (.tup xs) ∧ WrapsAt K H xs ws ∧
  ∀ H', Kp x H H' → H' x = some (.ins (He.ga K "Stack") dx (stkFs b p ws)) → Q .non H'
def spStack (K : PySem.W.Frag) : Sp := fun vs H Q _ => ∃ (b : Int) (xs : List V) (ws : List Wr), vs = .int b :: xs ∧ StkOk b ws ∧ WrapsAt K H xs ws ∧ ∀ q H', H q = none → Same H H' → StkAt K H' q b ws → Q (.ref q) H'
def spSGrown (K : PySem.W.Frag) : Sp := fun vs H Q _ => ∃ (q : Addr) (b : Int) (ws : List Wr) (n : Int), vs = [.ref q, .int n] ∧ StkAt K H q b ws ∧ StkOk b ws ∧ 0 ≤ n ∧ n < 2 ^ 1000 ∧ Q (.int (grS b ws n)) H
def spSSize (K : PySem.W.Frag) : Sp := fun vs H Q _ => ∃ (q : Addr) (b : Int) (ws : List Wr) (n : Int), vs = [.ref q, .int n] ∧ StkAt K H q b ws ∧ StkOk b ws ∧ 0 ≤ n ∧ n ≤ 10 ^ 60 - 1 ∧ Q (.int (grS b ws n)) H
def spIsWrap (K : PySem.W.Frag) : Sp := fun vs H Q _ => ∃ (q : Addr) (a : Wr), vs = [.ref q] ∧ WrapAt K H q a ∧ Q .non H
def spIsStack (K : PySem.W.Frag) : Sp := fun vs H Q _ => ∃ (q : Addr) (b : Int) (ws : List Wr), vs = [.ref q] ∧ StkAt K H q b ws ∧ Q .non H
def spAdd (K : PySem.W.Frag) : Sp := fun vs H Q _ => ∃ (q r : Addr) (b : Int) (ws : List Wr) (a : Wr), vs = [.ref q, .ref r] ∧ StkAt K H q b ws ∧ WrapAt K H r a ∧ ws.length < 6 ∧ StkOk b (ws ++ [a]) ∧ ∀ q' H', H q' = none → Same H H' → StkAt K H' q' b (ws ++ [a]) → Q (.ref q') H'
section
variable {P : Program} {w : World} {K : PySem.W.Frag} {mg : Str → Option Value} {base : Heap}
theorem ok_check_wraps (T : Tx w K mg) : Prom P w K mg base CX0 1 "check_wraps" s_check_wraps ["values", "most"] (spWraps K) := by
  refine Prom.of T.d_check_wraps sc_check_wraps (fun vs H Q E h => ?_) (fun _ _ _ _ _ _ us hl => match us, hl with | [_, _], _ => rfl) (fun f cdv A outer s H vs Q E hr h => ?_)
  · obtain ⟨t, xs, ws, rfl, _⟩ := h
    rfl
  · obtain ⟨t, xs, ws, rfl, hT, hw, hl, k⟩ := h
    have hT' : ∀ {H' : Hp}, Same H H' → SqT K H' t xs := fun {H'} hs => by
      rcases hT with (h | ⟨o, h⟩) | h
      · exact .inl (.inl (hs _ _ h))
      · exact .inl (.inr ⟨o, hs _ _ h⟩)
      · exact .inr h
    have hlx := hw.len
    refine ⟨_, (pss_cons (ps_if (pt_cmp (pc_gt (pe_callB call_len_seq (by rfl) T.b_len (by decide +kernel) (pa_cons (pv 0) pa_nil)) (pv 1))) (pss_one ps_never) pss_nil)
      (pss_one (ps_for PassesOwn.never (by rfl) (pi_enumT (by rfl) T.b_enumerate (pa_cons (pv 0) pa_nil)) (pg_tup rfl (pgs_cons (pg_name (i := 2) sc_check_wraps.nd rfl (Or.inl rfl)) (pgs_cons (pg_name (i := 3) sc_check_wraps.nd rfl (Or.inl rfl)) pgs_nil))) (pss_one (ps_if (pt_not (pt_val (pe_callB call_isi (by rfl) T.b_isinstance (by decide +kernel) (pa_cons (pv 3) (pa_cons (pe_glob (v := .ref _) (by rfl) T.k_Wrap rfl) pa_nil))))) (pss_one ps_never) pss_nil))))), ?_⟩
    refine ⟨_, rfl, t, xs, rfl, .inr hT, _, rfl, _, _, rfl, rfl, _, rfl, ifd (fun c => absurd c (by show ¬ (6 : Int) < (xs.length : Int); omega)) (fun _ => ?_)⟩
    refine ⟨_, rfl, t, xs, rfl, hT, for_it (walk_enumT (K := K) (a := t) (xs := xs)) (fun i σ H' => Same H H' ∧ ∃ v1 v2, σ = [some (.ref t), some (.int 6), v1, v2]) ⟨Same.refl H, none, none, rfl⟩ (fun _ _ H' _ h => hT' h.1) ?_ ?_⟩
    · rintro i x σ H1 H2 hi ⟨hs, v1, v2, rfl⟩ ⟨t2, x1, x2, rfl, ht2, rfl, e1, e2⟩
      cases e1
      obtain ⟨q, a, rfl, hq, hw1⟩ := hw.get e2
      have hs2 := hs.trans (up (o := .tup [.int (i : Nat), .ref q]) ht2)
      obtain ⟨dx, p, h1, h2⟩ := hw1.same hs2
      refine ⟨t2, _, rfl, SqT.of upd_same, rfl, _, _, rfl, _, _, rfl, rfl, ?_⟩
      refine ⟨_, rfl, _, _, _, _, true, rfl, .own _, T.is_Wrap.ty h1, kit_self, true, rfl, iteF ?_⟩
      exact ⟨hs2, _, _, rfl⟩
    · rintro σ H' ⟨hs, v1, v2, rfl⟩
      exact k _ hs
theorem ok_Stack (T : Tx w K mg) : PromC P w K mg base CX0 4 "Stack" (spStack K) := by
  refine PromC.star (sp0 := spStack0 K) T.mk_Stack T.k_Stack T.dm_Stack___init__ sc_Stack___init__ (fun _ _ _ _ _ _ _ _ => rfl) (fun _ _ _ _ _ _ _ _ _ _ => rfl) (fun f cdv A outer s H vs Q E hr h => ?_) (fun vs H Q E h => ?_)
  · obtain ⟨x, p, dx, b, xs, ws, rfl, so, hx, hp, hw, k⟩ := h
    refine ⟨_, (pss_cons (ps_expr (pe_callP (ok_check_base T) (hr.mono (by decide)) (by rfl) pass0 (pa_cons (pv 1) pa_nil)))
      (pss_cons (ps_expr (pe_callP (ok_check_wraps T) (hr.mono (by decide)) (by rfl) pass0 (pa_cons (pv 2) (pa_cons (pe_gint T.c_MOST_WRAPS) pa_nil))))
      (pss_cons (ps_set (i := 3) sc_Stack___init__.nd rfl (Or.inl rfl) (pe_callP (ok_fineness_of T) (hr.mono (by decide)) (by rfl) pass0 (pa_cons (pv 2) pa_nil)))
      (pss_cons (ps_if (pt_cmp (pc_gt (pv 3) (pe_gint T.c_MOST_FINENESS))) (pss_one ps_never) pss_nil)
      (pss_cons (ps_fld (pv 0) (pv 1) rfl)
      (pss_cons (ps_fld (pv 0) (pv 2) rfl)
      (pss_one (ps_fld (pv 0) (pv 3) rfl)))))))), ?_⟩
    refine ⟨_, rfl, b, rfl, so.b0, so.b1, ?_⟩
    refine ⟨_, rfl, p, xs, ws, rfl, SqT.of hp, hw, so.len, fun H1 s1 => ?_⟩
    refine ⟨_, rfl, p, xs, ws, rfl, .inr (SqT.of (s1 _ _ hp)), hw.same s1, so.ok, fun H2 s2 => ?_⟩
    have sf := so.fine
    refine ⟨_, rfl, _, _, rfl, rfl, _, rfl, ifd (fun c => absurd c (by show ¬ (120 : Int) < fineL ws; omega)) (fun _ => ?_)⟩
    refine ⟨_, rfl, _, rfl, x, _, dx, _, rfl, s2 _ _ (s1 _ _ hx), T.cl_Stack, T.na_Stack_base, (show (0 : Nat) < 1000 by decide), ?_⟩
    refine ⟨_, rfl, _, rfl, x, _, dx, _, rfl, upd_same, T.cl_Stack, T.na_Stack_wraps, (show (1 : Nat) < 1000 by decide), ?_⟩
    refine ⟨_, rfl, _, rfl, x, _, dx, _, rfl, upd_same, T.cl_Stack, T.na_Stack_fineness, (show (2 : Nat) < 1000 by decide), ?_⟩
    exact k _ (Kp.set (Kp.set (Kp.set fun z o n e => s2 _ _ (s1 _ _ e)))) upd_same
  · obtain ⟨b, xs, ws, rfl, so, hw, k⟩ := h
    have hl : xs.length ≤ sizeLine := by
      rw [hw.len, sizeLine_eq]
      have := so.len
      omega
    refine ⟨_, _, rfl, hl, fun x dx p hx hdx nd np npd hp => ?_⟩
    have same : Same H (upd (upd (upd H dx (.own x)) x (.ins (He.ga K "Stack") dx [])) p (.tup xs)) := fun z o e => by
      rw [upd_ne (ne_of_none e hp), upd_ne (ne_of_none e hx), upd_ne (ne_of_none e hdx)]
      exact e
    refine ⟨x, p, dx, b, xs, ws, rfl, so, by rw [upd_ne (Ne.symm np)]; exact upd_same, upd_same, hw.same same, fun H' kp hx' => ⟨rfl, ?_⟩⟩
    have s2 : Same H H' := fun z o e => kp _ _ (ne_of_none e hx) (same _ _ e)
    exact k x H' hx s2 ⟨dx, p, xs, hx', kp _ _ np upd_same, hw.same s2⟩
theorem ok_Stack_grown (T : Tx w K mg) : PromM P w K mg base CX0 4 "Stack" "grown" ["self", "length"] (spSGrown K) := by
  refine PromM.of T.cl_Stack T.me_Stack_grown T.dm_Stack_grown sc_Stack_grown (fun vs H Q E h => ?_) (fun _ _ _ _ _ _ us hl => match us, hl with | [_, _], _ => rfl) (fun f cdv A outer s H vs Q E hr h => ?_)
  · obtain ⟨q, b, ws, n, rfl, _⟩ := h
    rfl
  · obtain ⟨q, b, ws, n, rfl, ⟨dx, t, xs, hq, ht, hw⟩, so, n0, n1, k⟩ := h
    refine ⟨_, (pss_cons (ps_for PassesOwn.never (by rfl) (pi_tup (pe_fld (pv 0) rfl)) (pg_name (i := 2) sc_Stack_grown.nd rfl (Or.inl rfl)) (pss_one (ps_set (i := 1) sc_Stack_grown.nd rfl (Or.inl rfl) (pe_methP (ok_Wrap_grown T) (hr.mono (by decide)) pass0 (pv 2) (pa_cons (pv 1) (pa_cons (pe_fld (pv 0) rfl) pa_nil))))))
      (pss_one (ps_ret (pv 1)))), ?_⟩
    refine ⟨_, rfl, q, _, dx, _, _, rfl, hq, T.cl_Stack, T.na_Stack_wraps, rfl, t, rfl, ⟨_, SqT.of ht⟩, for_it (walk_tup (K := K) (a := t) (xs := xs)) (fun i σ H' => H' = H ∧ ∃ v, σ = [some (.ref q), some (.int (grS b (ws.take i) n)), v]) ⟨rfl, none, rfl⟩ (fun _ _ H' _ h => by rw [h.1]; exact SqT.of ht) ?_ ?_⟩
    · rintro i x σ H1 H2 hi ⟨rfl, v, rfl⟩ ⟨rfl, hx⟩
      obtain ⟨r, a, rfl, hr2, hw1⟩ := hw.get hx
      have hok := so.ok a (List.mem_of_getElem? hr2)
      obtain ⟨dx2, p, h1, h2⟩ := id hw1
      have et : grS b (ws.take (i + 1)) n = a.gr b (grS b (ws.take i) n) := by
        unfold grS
        rw [List.take_succ, hr2, List.foldl_append]
        rfl
      have hl := so.len
      have hlt : (ws.take i).length ≤ 6 := by
        rw [List.length_take]
        omega
      have bd := grS_pow so.b0 (ws.take i) (fun z hz => so.ok z (List.mem_of_mem_take hz)) (show 12 ≤ 1000 by decide) n0 n1
      have bd2 : grS b (ws.take i) n < 2 ^ 3000 := Int.lt_of_lt_of_le bd.2 (pow_mono (by decide) (by omega))
      rw [et]
      generalize grS b (ws.take i) n = m at bd bd2 ⊢
      refine ⟨_, rfl, r, dx2, _, rfl, h1, rfl, _, rfl, _, rfl, q, _, dx, _, _, rfl, hq, T.cl_Stack, T.na_Stack_base, rfl, a, r, m, b, rfl, hw1, hok, so.b0, so.b1, bd.1, bd2, ?_⟩
      exact ⟨rfl, _, rfl⟩
    · rintro σ H' ⟨rfl, v, rfl⟩
      rw [hw.len, List.take_length]
      exact ⟨_, rfl, k⟩
end
section
variable {P : Program} {w : World} {K : PySem.W.Frag} {mg : Str → Option Value} {base : Heap}
theorem ok_check_wrap (T : Tx w K mg) : Prom P w K mg base CX0 1 "check_wrap" s_check_wrap ["value"] (spIsWrap K) := by
  refine Prom.of T.d_check_wrap sc_check_wrap (fun vs H Q E h => ?_) (fun _ _ _ _ _ _ us hl => match us, hl with | [_], _ => rfl) (fun f cdv A outer s H vs Q E hr h => ?_)
  · obtain ⟨q, a, rfl, _⟩ := h
    rfl
  · obtain ⟨q, a, rfl, ⟨dx, p, h1, h2⟩, k⟩ := h
    refine ⟨_, (pss_one (ps_if (pt_not (pt_val (pe_callB call_isi (by rfl) T.b_isinstance (by decide +kernel) (pa_cons (pv 0) (pa_cons (pe_glob (v := .ref _) (by rfl) T.k_Wrap rfl) pa_nil))))) (pss_one ps_never) pss_nil)), ?_⟩
    exact ⟨_, rfl, _, _, _, _, true, rfl, .own _, T.is_Wrap.ty h1, kit_self, true, rfl, iteF k⟩
end
section
variable {P : Program} {w : World} {K : PySem.W.Frag} {mg : Str → Option Value} {base : Heap}
theorem ok_check_stack (T : Tx w K mg) : Prom P w K mg base CX0 1 "check_stack" s_check_stack ["value"] (spIsStack K) := by
  refine Prom.of T.d_check_stack sc_check_stack (fun vs H Q E h => ?_) (fun _ _ _ _ _ _ us hl => match us, hl with | [_], _ => rfl) (fun f cdv A outer s H vs Q E hr h => ?_)
  · obtain ⟨q, b, ws, rfl, _⟩ := h
    rfl
  · obtain ⟨q, b, ws, rfl, ⟨dx, t, xs, h1, h2, h3⟩, k⟩ := h
    refine ⟨_, (pss_one (ps_if (pt_not (pt_val (pe_callB call_isi (by rfl) T.b_isinstance (by decide +kernel) (pa_cons (pv 0) (pa_cons (pe_glob (v := .ref _) (by rfl) T.k_Stack rfl) pa_nil))))) (pss_one ps_never) pss_nil)), ?_⟩
    exact ⟨_, rfl, _, _, _, _, true, rfl, .own _, T.is_Stack.ty h1, kit_self, true, rfl, iteF k⟩
end
def spSLen (K : PySem.W.Frag) : Sp := fun vs H Q _ => ∃ (q : Addr) (b : Int) (ws : List Wr), vs = [.ref q] ∧ StkAt K H q b ws ∧ Q (.int (ws.length : Nat)) H
section
variable {P : Program} {w : World} {K : PySem.W.Frag} {mg : Str → Option Value} {base : Heap}
theorem ok_Stack___len__ (T : Tx w K mg) : PromM P w K mg base CX0 1 "Stack" "__len__" ["self"] (spSLen K) := by
  refine PromM.of T.cl_Stack T.me_Stack___len__ T.dm_Stack___len__ sc_Stack___len__ (fun vs H Q E h => ?_) (fun _ _ _ _ _ _ us hl => match us, hl with | [_], _ => rfl) (fun f cdv A outer s H vs Q E hr h => ?_)
  · obtain ⟨q, b, ws, rfl, _⟩ := h
    rfl
  · obtain ⟨q, b, ws, rfl, ⟨dx, t, xs, hq, ht, hw⟩, k⟩ := h
    refine ⟨_, (pss_one (ps_ret (pe_callB call_len_seq (by rfl) T.b_len (by decide +kernel) (pa_cons (pe_fld (pv 0) rfl) pa_nil)))), ?_⟩
    rw [← hw.len] at k
    exact ⟨_, rfl, q, _, dx, _, _, rfl, hq, T.cl_Stack, T.na_Stack_wraps, rfl, t, xs, rfl, .inr (SqT.of ht), k⟩
end
section
variable {P : Program} {w : World} {K : PySem.W.Frag} {mg : Str → Option Value} {base : Heap}
theorem ok_Stack_size (T : Tx w K mg) : PromM P w K mg base CX0 5 "Stack" "size" ["self", "length"] (spSSize K) := by
  refine PromM.of T.cl_Stack T.me_Stack_size T.dm_Stack_size sc_Stack_size (fun vs H Q E h => ?_) (fun _ _ _ _ _ _ us hl => match us, hl with | [_, _], _ => rfl) (fun f cdv A outer s H vs Q E hr h => ?_)
  · obtain ⟨q, b, ws, n, rfl, _⟩ := h
    rfl
  · obtain ⟨q, b, ws, n, rfl, hS, so, n0, n1, k⟩ := h
    obtain ⟨dx, t, xs, hq, ht, hw⟩ := id hS
    refine ⟨_, (pss_cons (ps_expr (pe_callP (ok_check_length T) (hr.mono (by decide)) (by rfl) pass0 (pa_cons (pv 1) pa_nil)))
      (pss_one (ps_ret (pe_methP (ok_Stack_grown T) (hr.mono (by decide)) pass0 (pv 0) (pa_cons (pv 1) pa_nil))))), ?_⟩
    refine ⟨_, rfl, n, rfl, n0, n1, ?_⟩
    exact ⟨_, rfl, q, dx, _, rfl, hq, rfl, _, rfl, q, b, ws, n, rfl, hS, so, n0, Int.lt_of_le_of_lt n1 (by decide), k⟩
end
section
variable {P : Program} {w : World} {K : PySem.W.Frag} {mg : Str → Option Value} {base : Heap}
theorem ok_Stack___add__ (T : Tx w K mg) : PromM P w K mg base CX0 6 "Stack" "__add__" ["self", "wrap"] (spAdd K) := by
  refine PromM.of T.cl_Stack T.me_Stack___add__ T.dm_Stack___add__ sc_Stack___add__ (fun vs H Q E h => ?_) (fun _ _ _ _ _ _ us hl => match us, hl with | [_, _], _ => rfl) (fun f cdv A outer s H vs Q E hr h => ?_)
  · obtain ⟨q, r, b, ws, a, rfl, _⟩ := h
    rfl
  · obtain ⟨q, r, b, ws, a, rfl, hS, hW, hl, so, k⟩ := h
    obtain ⟨dx, t, xs, hq, ht, hw⟩ := id hS
    refine ⟨_, (pss_cons (ps_expr (pe_callP (ok_check_wrap T) (hr.mono (by decide)) (by rfl) pass0 (pa_cons (pv 1) pa_nil)))
      (pss_cons (ps_if (pt_cmp (pc_eqI (pe_callB call_len_seq (by rfl) T.b_len (by decide +kernel) (pa_cons (pe_fld (pv 0) rfl) pa_nil)) (pe_gint T.c_MOST_WRAPS))) (pss_one ps_never) pss_nil)
      (pss_cons (ps_set (i := 2) sc_Stack___add__.nd rfl (Or.inl rfl) (pe_fld (pv 0) rfl))
      (pss_one (ps_ret (pe_newS (ok_Stack T) (hr.mono (by decide)) (by rfl) pass0 (pa_cons (pe_fld (pv 0) rfl) (StX.pa_star (pv 2) (pa_cons (pv 1) pa_nil))))))))), ?_⟩
    refine ⟨_, rfl, r, a, rfl, hW, ?_⟩
    have hlx := hw.len
    refine ⟨_, rfl, q, _, dx, _, _, rfl, hq, T.cl_Stack, T.na_Stack_wraps, rfl, t, xs, rfl, .inr (SqT.of ht), _, _, rfl, rfl, _, rfl, ifd (fun c => absurd c (by show ¬ (xs.length : Int) = 6; omega)) (fun _ => ?_)⟩
    refine ⟨_, rfl, q, _, dx, _, _, rfl, hq, T.cl_Stack, T.na_Stack_wraps, rfl, ?_⟩
    exact ⟨_, rfl, q, _, dx, _, _, rfl, hq, T.cl_Stack, T.na_Stack_base, rfl, _, rfl, t, xs, rfl, .inl (SqT.of ht), .ref r, rfl, b, xs ++ [V.ref r], ws ++ [a], rfl, so, hw.snoc hW, k⟩
end
def Wr.use : Wr → Int
  | .coded m c => m * c
  | .pieces m _ => m
  | .cut m _ => m
  | .filled m => m
  | _ => 1
theorem step_use (p : Int) (a : Wr) : stepF p a = p * a.use := by
  cases a <;> simp [stepF, Wr.use, Int.mul_assoc]
theorem use_pos {a : Wr} (h : a.ok) : 1 ≤ a.use := by
  cases a with
  | coded m c =>
    simp only [Wr.ok] at h
    simp only [Wr.use]
    have := Int.mul_le_mul h.1 (show 1 ≤ c by omega) (by decide) (by omega)
    omega
  | _ => simp only [Wr.ok] at h; simp only [Wr.use]; omega
theorem fine_app (ws : List Wr) (a : Wr) : fineL (ws ++ [a]) = fineL ws * a.use := by
  unfold fineL
  rw [List.foldl_append]
  exact step_use _ a
theorem fine_pos : ∀ {ws : List Wr}, (∀ a ∈ ws, a.ok) → ∀ {p : Int}, 1 ≤ p → p ≤ ws.foldl stepF p
  | [], _, p, _ => Int.le_refl p
  | a :: ws, h, p, hp => by
    have u := use_pos (h a (List.mem_cons_self ..))
    have m := Int.mul_le_mul_of_nonneg_left u (show 0 ≤ p by omega)
    rw [Int.mul_one] at m
    have e : stepF p a = p * a.use := step_use p a
    have ih := fine_pos (ws := ws) (fun x hx => h x (List.mem_cons_of_mem _ hx)) (p := stepF p a) (by omega)
    show p ≤ ws.foldl stepF (stepF p a)
    omega
theorem fine_take {ws : List Wr} (h : ∀ a ∈ ws, a.ok) (i : Nat) : fineL (ws.take i) ≤ fineL ws := by
  have e : fineL ws = (ws.drop i).foldl stepF (fineL (ws.take i)) := by
    unfold fineL
    rw [← List.foldl_append, List.take_append_drop]
  rw [e]
  exact fine_pos (fun x hx => h x (List.mem_of_mem_drop hx)) (fine_pos (fun x hx => h x (List.mem_of_mem_take hx)) (by decide))
/-- the numbers from lo on whose square is within the room, among so many -/
def sqs (r : Int) (i : Nat) : List Int := ((List.range i).map fun (j : Nat) => 1 + (j : Int)).filter fun z => decide (z * z ≤ r)
theorem sqs_succ (r : Int) (i : Nat) : sqs r (i + 1) = sqs r i ++ (if (1 + (i : Int)) * (1 + (i : Int)) ≤ r then [1 + (i : Int)] else []) := by
  unfold sqs
  rw [List.range_succ, List.map_append, List.filter_append]
  congr 1
  by_cases c : (1 + (i : Int)) * (1 + (i : Int)) ≤ r <;> simp [c]
theorem sqs_len {r : Int} (hr : 1 ≤ r) : ∀ i : Nat, (sqs r i).length ≤ i ∧ (1 ≤ i → 1 ≤ (sqs r i).length) ∧ ∀ z : Int, 1 ≤ z → z ≤ (sqs r i).length → z * z ≤ r
  | 0 => ⟨Nat.zero_le _, fun h => absurd h (by decide), fun z h0 h1 => by
    have e : (sqs r 0).length = 0 := rfl
    rw [e] at h1
    omega⟩
  | i + 1 => by
    obtain ⟨h1, h2, h3⟩ := sqs_len hr i
    have e := sqs_succ r i
    by_cases c : (1 + (i : Int)) * (1 + (i : Int)) ≤ r
    · rw [e, if_pos c, List.length_append]
      refine ⟨by simp; omega, fun _ => by simp, fun z z0 z1 => ?_⟩
      have zi : z ≤ 1 + (i : Int) := by
        simp at z1
        omega
      exact Int.le_trans (Int.mul_le_mul zi zi (by omega) (by omega)) c
    · rw [e, if_neg c, List.append_nil]
      refine ⟨by omega, fun _ => ?_, h3⟩
      by_cases i0 : i = 0
      · exfalso
        apply c
        rw [i0]
        simp
        omega
      · exact h2 (by omega)
/-! ### steps of a road -/
inductive Stp where
  | push (a : Wr)
  | pop
  | bound (n : Int)
def stepOn (ws : List Wr) : Stp → List Wr
  | .push a => ws ++ [a]
  | .pop => ws.dropLast
  | .bound _ => ws
def stepOk (b : Int) (ws : List Wr) : Stp → Prop
  | .push a => StkOk b (ws ++ [a])
  | .pop => ws ≠ []
  | .bound n => 0 ≤ n ∧ n ≤ 10 ^ 60 - 1
/-- the wraps that are on -/
def onL (ss : List Stp) : List Wr := ss.foldl stepOn []
inductive RoadB (b : Int) : List Stp → Prop where
  | nil : RoadB b []
  | snoc {ss : List Stp} {s : Stp} (h : RoadB b ss) (ok : stepOk b (onL ss) s) : RoadB b (ss ++ [s])
theorem onL_snoc (ss : List Stp) (s : Stp) : onL (ss ++ [s]) = stepOn (onL ss) s := by
  unfold onL
  rw [List.foldl_append]
  rfl
theorem fine_init {ws : List Wr} (h : ∀ a ∈ ws, a.ok) : fineL ws.dropLast ≤ fineL ws := by
  rw [List.dropLast_eq_take]
  exact fine_take h _
theorem StkOk.init {b : Int} {ws : List Wr} (so : StkOk b ws) : StkOk b ws.dropLast :=
  ⟨so.b0, so.b1, fun a ha => so.ok a (by rw [List.dropLast_eq_take] at ha; exact List.mem_of_mem_take ha), by rw [List.length_dropLast]; have := so.len; omega, Int.le_trans (fine_init so.ok) so.fine⟩
theorem StkOk.step {b : Int} {ws : List Wr} {s : Stp} (so : StkOk b ws) (h : stepOk b ws s) : StkOk b (stepOn ws s) := by
  cases s with
  | push a => exact h
  | pop => exact so.init
  | bound n => exact so
theorem StkOk.nil {b : Int} (b0 : 2 ≤ b) (b1 : b ≤ 256) : StkOk b [] := ⟨b0, b1, fun _ h => absurd h (by simp), by simp, by decide⟩
theorem RoadB.stk {b : Int} {ss : List Stp} (b0 : 2 ≤ b) (b1 : b ≤ 256) (h : RoadB b ss) : StkOk b (onL ss) := by
  induction h with
  | nil => exact StkOk.nil b0 b1
  | snoc h ok ih =>
    rw [onL_snoc]
    exact ih.step ok
theorem RoadB.take {b : Int} {ss : List Stp} (h : RoadB b ss) : ∀ i : Nat, RoadB b (ss.take i) := by
  induction h with
  | nil => intro i; simp; exact .nil
  | @snoc ss s h ok ih =>
    intro i
    by_cases z : i ≤ ss.length
    · rw [List.take_append_of_le_length z]
      exact ih i
    · rw [List.take_of_length_le (by rw [List.length_append]; simp; omega)]
      exact .snoc h ok
theorem RoadB.at_ {b : Int} {ss : List Stp} (h : RoadB b ss) : ∀ {i : Nat} {s : Stp}, ss[i]? = some s → stepOk b (onL (ss.take i)) s := by
  induction h with
  | nil => intro i s e; simp at e
  | @snoc ss s' h ok ih =>
    intro i s e
    by_cases z : i < ss.length
    · rw [List.getElem?_append_left z] at e
      rw [List.take_append_of_le_length (by omega)]
      exact ih e
    · have hi : i = ss.length := by
        have := (List.getElem?_eq_some_iff.mp e).1
        rw [List.length_append] at this
        simp at this
        omega
      subst hi
      rw [List.getElem?_append_right (Nat.le_refl _), Nat.sub_self] at e
      have e2 : s' = s := by simpa using e
      rw [List.take_append_of_le_length (Nat.le_refl _), List.take_length, ← e2]
      exact ok
/-! sizes along a road -/
noncomputable def goT (b : Int) (z : Int × List Int) : Stp → Int × List Int
  | .push a => (a.gr b z.1, z.2 ++ [z.1])
  | .pop => (z.2.getLast?.getD 0, z.2.dropLast)
  | .bound _ => z
noncomputable def trS (b : Int) (ss : List Stp) (n : Int) : Int × List Int := ss.foldl (goT b) (n, [])
noncomputable def inner (b : Int) (ws : List Wr) (n : Int) : List Int := (List.range ws.length).map fun j => grS b (ws.take j) n
theorem grS_snoc {b : Int} {ws : List Wr} {a : Wr} {n : Int} : grS b (ws ++ [a]) n = a.gr b (grS b ws n) := by
  unfold grS
  rw [List.foldl_append]
  rfl
theorem inner_snoc {b : Int} {ws : List Wr} {a : Wr} {n : Int} : inner b (ws ++ [a]) n = inner b ws n ++ [grS b ws n] := by
  unfold inner
  rw [List.length_append, List.length_singleton, List.range_succ, List.map_append]
  congr 1
  · refine List.map_congr_left fun j hj => ?_
    have := List.mem_range.mp hj
    rw [List.take_append_of_le_length (by omega)]
  · simp
theorem trS_snoc {b : Int} {ss : List Stp} {s : Stp} {n : Int} : trS b (ss ++ [s]) n = goT b (trS b ss n) s := by
  unfold trS
  rw [List.foldl_append]
  rfl
theorem trS_on {b : Int} {ss : List Stp} (h : RoadB b ss) (n : Int) : trS b ss n = (grS b (onL ss) n, inner b (onL ss) n) := by
  induction h with
  | nil => rfl
  | @snoc ss s h ok ih =>
    rw [trS_snoc, onL_snoc, ih]
    cases s with
    | push a =>
      show (a.gr b (grS b (onL ss) n), inner b (onL ss) n ++ [grS b (onL ss) n]) = (grS b (onL ss ++ [a]) n, inner b (onL ss ++ [a]) n)
      rw [grS_snoc, inner_snoc]
    | pop =>
      have ok : onL ss ≠ [] := ok
      generalize onL ss = ws at ok ⊢
      show ((inner b ws n).getLast?.getD 0, (inner b ws n).dropLast) = (grS b ws.dropLast n, inner b ws.dropLast n)
      have e := List.dropLast_concat_getLast ok
      generalize ws.dropLast = us at e
      generalize ws.getLast ok = a at e
      rw [← e, inner_snoc]
      simp
    | bound m => rfl
/-- all bounds let it through -/
def fitsP (b : Int) (ss : List Stp) (n : Int) : Prop := ∀ (i : Nat) (m : Int), ss[i]? = some (.bound m) → grS b (onL (ss.take i)) n ≤ m
theorem fits_snoc {b : Int} {ss : List Stp} {s : Stp} {n : Int} : fitsP b (ss ++ [s]) n ↔ fitsP b ss n ∧ ∀ m, s = .bound m → grS b (onL ss) n ≤ m := by
  constructor
  · intro h
    refine ⟨fun i m e => ?_, fun m e => ?_⟩
    · have hi : i < ss.length := (List.getElem?_eq_some_iff.mp e).1
      have z := h i m (by rw [List.getElem?_append_left hi]; exact e)
      rw [List.take_append_of_le_length (by omega)] at z
      exact z
    · have z := h ss.length m (by rw [List.getElem?_append_right (Nat.le_refl _), Nat.sub_self, e]; rfl)
      rw [List.take_append_of_le_length (Nat.le_refl _), List.take_length] at z
      exact z
  · rintro ⟨h1, h2⟩ i m e
    by_cases z : i < ss.length
    · rw [List.getElem?_append_left z] at e
      rw [List.take_append_of_le_length (by omega)]
      exact h1 i m e
    · have hi : i = ss.length := by
        have := (List.getElem?_eq_some_iff.mp e).1
        rw [List.length_append] at this
        simp at this
        omega
      subst hi
      rw [List.getElem?_append_right (Nat.le_refl _), Nat.sub_self] at e
      rw [List.take_append_of_le_length (Nat.le_refl _), List.take_length]
      exact h2 m (by simpa using e)
theorem grS_mono {b : Int} (hb : 2 ≤ b) : ∀ (ws : List Wr), (∀ a ∈ ws, a.ok) → ∀ {n k : Int}, 0 ≤ n → n ≤ k → grS b ws n ≤ grS b ws k
  | [], _, n, k, _, h => h
  | a :: ws, ha, n, k, h0, h => grS_mono hb ws (fun x hx => ha x (List.mem_cons_of_mem _ hx)) (gr_le hb (ha a (List.mem_cons_self ..)) h0).1 (gr_mono hb (ha a (List.mem_cons_self ..)) h0 h)
theorem grS_ge {b : Int} (hb : 2 ≤ b) : ∀ (ws : List Wr), (∀ a ∈ ws, a.ok) → ∀ {n : Int}, 0 ≤ n → n ≤ grS b ws n
  | [], _, n, _ => Int.le_refl n
  | a :: ws, ha, n, h0 => Int.le_trans (gr_ge hb (ha a (List.mem_cons_self ..)) h0) (grS_ge hb ws (fun x hx => ha x (List.mem_cons_of_mem _ hx)) (gr_le hb (ha a (List.mem_cons_self ..)) h0).1)
/-! ### the law's pool: what is drawn lies in its range, and nothing else is told of it -/
def PurseAt (H : Hp) (p : Addr) : Prop := ∃ d x y : Int, H p = some (.lst [.int d, .int x, .int y]) ∧ 0 ≤ d ∧ 0 ≤ x ∧ x < 2147483648 ∧ 0 ≤ y ∧ y < 2147483648
theorem PurseAt.of {H : Hp} {p : Addr} {d x y : Int} (h : H p = some (.lst [.int d, .int x, .int y])) (h1 : 0 ≤ d) (h2 : 0 ≤ x) (h3 : x < 2147483648) (h4 : 0 ≤ y) (h5 : y < 2147483648) : PurseAt H p := ⟨d, x, y, h, h1, h2, h3, h4, h5⟩
structure Drew (p : Addr) (H H' : Hp) : Prop where
  at_ : PurseAt H' p
  kp : Kp p H H'
theorem Drew.refl {p : Addr} {H : Hp} (h : PurseAt H p) : Drew p H H := ⟨h, Kp.refl p H⟩
theorem Drew.trans {p : Addr} {H H1 H2 : Hp} (a : Drew p H H1) (b : Drew p H1 H2) : Drew p H H2 := ⟨b.at_, a.kp.trans b.kp⟩
theorem PurseAt.same {p : Addr} {H H' : Hp} (h : PurseAt H p) (s : Same H H') : PurseAt H' p := by
  obtain ⟨m, d, c, e, r⟩ := h
  exact ⟨m, d, c, s _ _ e, r⟩
theorem Drew.same {p : Addr} {H H1 H2 : Hp} (a : Drew p H H1) (b : Same H1 H2) : Drew p H H2 := ⟨a.at_.same b, fun x o n h => b _ _ (a.kp x o n h)⟩
theorem Drew.new {p q : Addr} {H H' : Hp} {o : HO} (a : Drew p H H') (h : H' q = none) : Drew p H (upd H' q o) := a.same fun y u e => by
  rw [upd_ne (ne_of_none e h)]
  exact e
theorem PurseAt.lst {p : Addr} {H : Hp} (h : PurseAt H p) : ∃ xs, H p = some (.lst xs) := by
  obtain ⟨_, _, _, e, _⟩ := h
  exact ⟨_, e⟩
theorem PurseAt.ne {p l : Addr} {H : Hp} (h : PurseAt H p) (hl : H l = none) : l ≠ p := by
  obtain ⟨_, e⟩ := h.lst
  exact Ne.symm (ne_of_none e hl)
theorem new_before {p q : Addr} {H H1 : Hp} (d : Drew p H H1) (hp : PurseAt H p) (hq : H1 q = none) : H q = none := by
  cases e : H q with
  | none => rfl
  | some o =>
    by_cases z : q = p
    · obtain ⟨_, e2⟩ := d.at_.lst
      rw [z, e2] at hq
      cases hq
    · rw [d.kp _ _ z e] at hq
      cases hq
theorem same_before {q : Addr} {H H1 : Hp} (d : Same H H1) (hq : H1 q = none) : H q = none := by
  cases e : H q with
  | none => rfl
  | some o =>
    rw [d _ _ e] at hq
    cases hq
/-- what is no list stays -/
theorem Drew.keep {p q : Addr} {H H1 : Hp} {o : HO} (d : Drew p H H1) (hp : PurseAt H p) (h : H q = some o) (n : ∀ xs, o ≠ .lst xs) : H1 q = some o := by
  obtain ⟨xs, e⟩ := hp.lst
  exact d.kp _ _ (fun z => by rw [z, e] at h; cases h; exact n xs rfl) h
def spCell (K : PySem.W.Frag) : Sp := fun vs H Q _ => ∃ (a : Addr) (ns : List Int) (k : Int), vs = [.ref a, .int k] ∧ SqL K H a (ns.map V.int) ∧ 0 ≤ k ∧ k ≤ 1000 ∧ ∀ z, Q (.int z) H
def spPurse : Sp := fun vs H Q _ => ∃ c : Int, vs = [.int c] ∧ ∀ p H', H p = none → Same H H' → PurseAt H' p → Q (.ref p) H'
def spTake : Sp := fun vs H Q _ => ∃ (p : Addr) (n : Int), vs = [.ref p, .int n] ∧ PurseAt H p ∧ 0 < n ∧ n ≤ 1000000000000000000000000000000 ∧ ∀ r H', 0 ≤ r → r < n → Drew p H H' → Q (.int r) H'
def spDraw (lo hi : Int) : Sp := fun vs H Q _ => ∃ (p : Addr), vs = [.ref p] ∧ PurseAt H p ∧ ∀ r H', lo ≤ r → r ≤ hi → Drew p H H' → Q (.int r) H'
def spLLen : Sp := fun vs H Q _ => ∃ (p : Addr) (b : Int), vs = [.ref p, .int b] ∧ PurseAt H p ∧ 2 ≤ b ∧ b ≤ 256 ∧ ∀ r H', 0 ≤ r → r ≤ 10 ^ 60 - 1 → Drew p H H' → Q (.int r) H'
def spConst : Sp := fun vs H Q _ => ∃ (p : Addr) (m : Int), vs = [.ref p, .int m] ∧ PurseAt H p ∧ 2 ≤ m ∧ m ≤ 1000 ∧ ∀ r H', 0 ≤ r → r ≤ m → Drew p H H' → Q (.int r) H'
theorem item_int {ns : List Int} {i : Nat} {x : V} (h : (ns.map V.int)[i]? = some x) : ∃ z, x = .int z := by
  rw [List.getElem?_map] at h
  cases e : ns[i]? with
  | none =>
    rw [e] at h
    cases h
  | some z =>
    rw [e] at h
    exact ⟨z, (Option.some.inj h).symm⟩
section
variable {P : Program} {w : World} {K : PySem.W.Frag} {mg : Str → Option Value} {base : Heap}
theorem ok_L_cell (T : Tx w K mg) : Prom P w K mg base CX0 1 "_law_cell" s_L_cell ["_law_cells", "_law_k"] (spCell K) := by
  refine Prom.of T.d_L_cell sc_L_cell (fun vs H Q E h => ?_) (fun _ _ _ _ _ _ us hl => match us, hl with | [_, _], _ => rfl) (fun f cdv A outer s H vs Q E hr h => ?_)
  · obtain ⟨a, ns, n, rfl, _⟩ := h
    rfl
  · obtain ⟨a, ns, n, rfl, hS, h0, h1, k⟩ := h
    have d0 : (0 : Int) < 2147483563 := by decide
    refine ⟨_, (pss_cons (ps_if (pt_cmp (pc_lt (pv 1) (pe_callB call_len_seq (by rfl) T.b_len (by decide +kernel) (pa_cons (pv 0) pa_nil)))) (pss_one (ps_ret (pe_ix ix_list (pv 0) (pv 1) (fun _ _ => rfl)))) pss_nil)
      (pss_cons (ps_set (i := 2) sc_L_cell.nd rfl (Or.inl rfl) (pe_op op_mod (pe_callTy call_int1 (by rfl) T.b_int (by decide +kernel) (pa_cons (pe_op op_mul (pe_op op_mul (pe_op op_add (pv 1) pe_int) (pe_op op_add (pv 1) pe_int)) pe_int) pa_nil)) pe_int))
      (pss_cons (ps_for PassesOwn.never (by rfl) (pi_list (pv 0)) (pg_name (i := 3) sc_L_cell.nd rfl (Or.inl rfl)) (pss_one (ps_set (i := 2) sc_L_cell.nd rfl (Or.inl rfl) (pe_op op_mod (pe_callTy call_int1 (by rfl) T.b_int (by decide +kernel) (pa_cons (pe_op op_add (pe_op op_add (pe_op op_mul (pv 2) pe_int) (pv 3)) pe_int) pa_nil)) pe_int))))
      (pss_one (ps_ret (pe_op op_mod (pe_callTy call_int1 (by rfl) T.b_int (by decide +kernel) (pa_cons (pe_op op_add (pe_op op_mul (pv 2) pe_int) (pv 1)) pa_nil)) pe_int)))))), ?_⟩
    refine ⟨_, rfl, _, rfl, _, _, rfl, .inl hS, _, _, rfl, rfl, _, rfl, ifd (fun c => ?_) (fun c => ?_)⟩
    · rw [List.length_map] at c
      have hi : n.toNat < ns.length := by omega
      obtain ⟨z, hz⟩ : ∃ z, ns[n.toNat]? = some z := ⟨_, List.getElem?_eq_getElem hi⟩
      have ez : (ns.map V.int)[n.toNat]? = some (V.int z) := by rw [List.getElem?_map, hz]; rfl
      exact ⟨_, rfl, _, rfl, _, _, _, _, rfl, rfl, hS, at_of (show n = ((n.toNat : Nat) : Int) by omega) ez, k z⟩
    · refine ⟨_, rfl, _, _, rfl, rfl, _, rfl, _, _, rfl, rfl, _, _, rfl, rfl, .inl ⟨by omega, by omega⟩, _, _, rfl, rfl, .inr ⟨by decide, by decide⟩, .inl ⟨_, rfl, _, _, rfl, rfl, d0, ?_⟩⟩
      refine ⟨_, rfl, a, rfl, ⟨_, hS⟩, for_list (K := K) (a := a) (xs := ns.map V.int) (fun i σ H' => H' = H ∧ ∃ m v, σ = [some (.ref a), some (.int n), some (.int m), v]) ⟨rfl, _, none, rfl⟩ (fun i σ H' _ h => by rw [h.1]; exact hS) ?_ ?_⟩
      · rintro i x σ H' hi ⟨rfl, m, v, rfl⟩
        obtain ⟨z, rfl⟩ := item_int hi
        refine ⟨_, rfl, _, _, rfl, rfl, .inr ⟨by decide, by decide⟩, _, rfl, _, _, rfl, rfl, _, _, rfl, rfl, .inl ⟨_, rfl, ?_⟩⟩
        exact ⟨_, _, rfl, rfl, d0, rfl, _, _, rfl⟩
      · rintro σ H' ⟨rfl, m, v, rfl⟩
        exact ⟨_, rfl, _, _, rfl, rfl, .inr ⟨by decide, by decide⟩, _, rfl, _, _, rfl, rfl, .inl ⟨_, rfl, _, _, rfl, rfl, d0, k _⟩⟩
theorem ok_L_pool (T : Tx w K mg) : Prom P w K mg base CX0 1 "_law_pool" s_L_pool ["_law_cell_here"] spPurse := by
  refine Prom.of T.d_L_pool sc_L_pool (fun vs H Q E h => ?_) (fun _ _ _ _ _ _ us hl => match us, hl with | [_], _ => rfl) (fun f cdv A outer s H vs Q E hr h => ?_)
  · obtain ⟨c, rfl, _⟩ := h
    rfl
  · obtain ⟨c, rfl, k⟩ := h
    refine ⟨_, (pss_cons (ps_set (i := 1) sc_L_pool.nd rfl (Or.inl rfl) (pe_ifExp (PW.pt (pw_or (pt_cmp (pc_lt (pv 0) pe_int)) (pw_or1 (pt_cmp (pc_ge (pv 0) (pe_op op_pow pe_int pe_int)))))) (pe_callB call_abs (by rfl) T.b_abs (by decide +kernel) (pa_cons (pv 0) pa_nil)) pe_int))
      (pss_one (ps_ret (pe_lst (pa_cons (pv 1) (pa_cons (pe_op op_add pe_int (pe_op op_mod (pe_callTy call_int1 (by rfl) T.b_int (by decide +kernel) (pa_cons (pe_op op_add (pe_op op_mul (pv 0) pe_int) pe_int) pa_nil)) pe_int)) (pa_cons (pe_op op_add pe_int (pe_op op_mod (pe_callTy call_int1 (by rfl) T.b_int (by decide +kernel) (pa_cons (pe_op op_add (pv 0) pe_int) pa_nil)) pe_int)) pa_nil))))))), ?_⟩
    have fin : ∀ d : Int, 0 ≤ d → ∀ p, H p = none → Q (.ref p) (upd H p (.lst [.int d, .int (1 + (c * 3 + 71) % 2147483398), .int (1 + (c + 5923) % 2147483562)])) := fun d hd p hp => by
      have a1 := Int.emod_nonneg (c * 3 + 71) (show (2147483398 : Int) ≠ 0 by decide)
      have a2 := Int.emod_lt_of_pos (c * 3 + 71) (show (0 : Int) < 2147483398 by decide)
      have b1 := Int.emod_nonneg (c + 5923) (show (2147483562 : Int) ≠ 0 by decide)
      have b2 := Int.emod_lt_of_pos (c + 5923) (show (0 : Int) < 2147483562 by decide)
      exact k p _ hp (fun b o e => by rw [upd_ne (ne_of_none e hp)]; exact e) (PurseAt.of upd_same hd (by omega) (by omega) (by omega) (by omega))
    refine ⟨_, rfl, _, _, rfl, rfl, _, rfl, ifd (fun h1 => iteT ?_) (fun h1 => ?_)⟩
    · refine ⟨_, rfl, _, rfl, ?_⟩
      refine ⟨_, rfl, _, rfl, _, _, rfl, rfl, .inr ⟨by decide, by decide⟩, _, _, rfl, rfl, .inl ⟨_, rfl, _, _, rfl, rfl, (by show (0 : Int) < 2147483398; decide), _, _, rfl, rfl, ?_⟩⟩
      refine ⟨_, rfl, _, _, rfl, rfl, .inl ⟨_, rfl, _, _, rfl, rfl, (by show (0 : Int) < 2147483562; decide), _, _, rfl, rfl, (by show 3 ≤ sizeLine; decide), fun p hp => fin _ ?_ p hp⟩⟩
      split <;> omega
    refine ⟨_, rfl, _, _, rfl, rfl, ⟨by decide, by decide, by decide⟩, _, _, rfl, rfl, _, rfl, ifd (fun h2 => ?_) (fun h2 => ?_)⟩
    · refine ⟨_, rfl, _, rfl, ?_⟩
      refine ⟨_, rfl, _, rfl, _, _, rfl, rfl, .inr ⟨by decide, by decide⟩, _, _, rfl, rfl, .inl ⟨_, rfl, _, _, rfl, rfl, (by show (0 : Int) < 2147483398; decide), _, _, rfl, rfl, ?_⟩⟩
      refine ⟨_, rfl, _, _, rfl, rfl, .inl ⟨_, rfl, _, _, rfl, rfl, (by show (0 : Int) < 2147483562; decide), _, _, rfl, rfl, (by show 3 ≤ sizeLine; decide), fun p hp => fin _ ?_ p hp⟩⟩
      split <;> omega
    · refine ⟨_, rfl, ?_⟩
      refine ⟨_, rfl, _, _, rfl, rfl, .inr ⟨by decide, by decide⟩, _, _, rfl, rfl, .inl ⟨_, rfl, _, _, rfl, rfl, (by show (0 : Int) < 2147483398; decide), _, _, rfl, rfl, ?_⟩⟩
      refine ⟨_, rfl, _, _, rfl, rfl, .inl ⟨_, rfl, _, _, rfl, rfl, (by show (0 : Int) < 2147483562; decide), _, _, rfl, rfl, (by show 3 ≤ sizeLine; decide), fun p hp => fin _ (Int.le_refl 0) p hp⟩⟩
theorem ok_L_draw (T : Tx w K mg) : Prom P w K mg base CX0 1 "_law_draw" s_L_draw ["_law_pool_here", "_law_many"] spTake := by
  refine Prom.of T.d_L_draw sc_L_draw (fun vs H Q E h => ?_) (fun _ _ _ _ _ _ us hl => match us, hl with | [_, _], _ => rfl) (fun f cdv A outer s H vs Q E hr h => ?_)
  · obtain ⟨p, n, rfl, _⟩ := h
    rfl
  · obtain ⟨p, n, rfl, ⟨d, x, y, hp, h0, h1, h2, h3, h4⟩, hn, hn2, k⟩ := h
    refine ⟨_, (pss_cons (ps_if (pt_cmp (pc_gt (pe_ix ix_list (pv 0) pe_int (fun _ _ => rfl)) pe_int)) (pss_cons (ps_asg (pe_callB call_divmodW (by rfl) T.b_divmod (by decide +kernel) (pa_cons (pe_ix ix_list (pv 0) pe_int (fun _ _ => rfl)) (pa_cons (pv 1) pa_nil))) (pg_tup rfl (pgs_cons (pg_sub (pv 0) pe_int set_list) (pgs_cons (pg_name (i := 2) sc_L_draw.nd rfl (Or.inl rfl)) pgs_nil))))
      (pss_one (ps_ret (pv 2)))) pss_nil)
      (pss_cons (ps_asg (pe_op op_mod (pe_callTy call_int1 (by rfl) T.b_int (by decide +kernel) (pa_cons (pe_op op_mul (pe_ix ix_list (pv 0) pe_int (fun _ _ => rfl)) pe_int) pa_nil)) pe_int) (pg_sub (pv 0) pe_int set_list))
      (pss_cons (ps_asg (pe_op op_mod (pe_callTy call_int1 (by rfl) T.b_int (by decide +kernel) (pa_cons (pe_op op_mul (pe_ix ix_list (pv 0) pe_int (fun _ _ => rfl)) pe_int) pa_nil)) pe_int) (pg_sub (pv 0) pe_int set_list))
      (pss_one (ps_ret (pe_op op_mod (pe_callTy call_int1 (by rfl) T.b_int (by decide +kernel) (pa_cons (pe_op op_fdiv (pe_op op_add (pe_ix ix_list (pv 0) pe_int (fun _ _ => rfl)) (pe_ix ix_list (pv 0) pe_int (fun _ _ => rfl))) pe_int) pa_nil)) (pv 1))))))), ?_⟩
    refine ⟨_, rfl, _, _, _, _, rfl, rfl, SqL.of hp, rfl, _, _, rfl, rfl, _, rfl, ifd (fun c1 => ?_) (fun c1 => ?_)⟩
    · have c1 : d > 0 := c1
      refine ⟨_, rfl, _, _, _, _, rfl, rfl, SqL.of hp, rfl, _, rfl, _, _, rfl, divp_small hn hn2, fun q hq => ?_⟩
      have nq : p ≠ q := ne_of_none hp hq
      refine ⟨q, _, rfl, SqT.of upd_same, rfl, _, _, rfl, ?_⟩
      refine ⟨_, rfl, _, _, _, _, rfl, rfl, (by rw [upd_ne nq]; exact hp), rfl, ?_⟩
      refine ⟨_, _, rfl, rfl, ?_⟩
      refine ⟨_, rfl, k _ _ (Int.emod_nonneg _ (by omega)) (Int.emod_lt_of_pos _ hn) ⟨PurseAt.of upd_same (Int.ediv_nonneg (by omega) (by omega)) h1 h2 h3 h4, ?_⟩⟩
      exact Kp.set (Kp.new (Kp.refl p H) hq)
    · refine ⟨_, rfl, _, _, _, _, rfl, rfl, SqL.of hp, rfl, _, _, rfl, rfl, .inr ⟨by decide, by decide⟩, .inl ⟨_, rfl, _, _, rfl, rfl, (by show (0 : Int) < 2147483399; decide), ?_⟩⟩
      refine ⟨_, rfl, _, _, _, _, rfl, rfl, hp, rfl, ?_⟩
      have a1 := Int.emod_nonneg (x * 40692) (show (2147483399 : Int) ≠ 0 by decide)
      have a2 := Int.emod_lt_of_pos (x * 40692) (show (0 : Int) < 2147483399 by decide)
      have e1 : (upd H p (.lst ([V.int d, V.int x, V.int y].set 1 (V.int (x * 40692 % 2147483399))))) p = some (.lst [.int d, .int (x * 40692 % 2147483399), .int y]) := upd_same
      refine ⟨_, rfl, _, _, _, _, rfl, rfl, SqL.of e1, rfl, _, _, rfl, rfl, .inr ⟨by decide, by decide⟩, .inl ⟨_, rfl, _, _, rfl, rfl, (by show (0 : Int) < 2147483563; decide), ?_⟩⟩
      refine ⟨_, rfl, _, _, _, _, rfl, rfl, e1, rfl, ?_⟩
      have b1 := Int.emod_nonneg (y * 40014) (show (2147483563 : Int) ≠ 0 by decide)
      have b2 := Int.emod_lt_of_pos (y * 40014) (show (0 : Int) < 2147483563 by decide)
      have e2 : (upd (upd H p (.lst ([V.int d, V.int x, V.int y].set 1 (V.int (x * 40692 % 2147483399))))) p (.lst ([V.int d, V.int (x * 40692 % 2147483399), V.int y].set 2 (V.int (y * 40014 % 2147483563))))) p = some (.lst [.int d, .int (x * 40692 % 2147483399), .int (y * 40014 % 2147483563)]) := upd_same
      refine ⟨_, rfl, _, _, _, _, rfl, rfl, SqL.of e2, rfl, _, rfl, _, _, _, _, rfl, rfl, SqL.of e2, rfl, _, _, rfl, rfl, _, _, rfl, rfl, ⟨by decide, by decide⟩, .inl ⟨_, rfl, _, rfl, _, _, rfl, rfl, hn, ?_⟩⟩
      exact k _ _ (Int.emod_nonneg _ (by omega)) (Int.emod_lt_of_pos _ hn) ⟨PurseAt.of e2 h0 a1 (by omega) b1 (by omega), Kp.set (Kp.set (Kp.refl p H))⟩
end
section
variable {P : Program} {w : World} {K : PySem.W.Frag} {mg : Str → Option Value} {base : Heap}
theorem ok_L_far (T : Tx w K mg) : Prom P w K mg base CX0 2 "_law_far" s_L_far ["_law_pool_here"] (spDraw 0 (10 ^ 60 - 1)) := by
  refine Prom.of T.d_L_far sc_L_far (fun vs H Q E h => ?_) (fun _ _ _ _ _ _ us hl => match us, hl with | [_], _ => rfl) (fun f cdv A outer s H vs Q E hr h => ?_)
  · obtain ⟨p, rfl, _⟩ := h
    rfl
  · obtain ⟨p, rfl, hp, k⟩ := h
    refine ⟨_, (pss_cons (ps_par (i := 1) (j := 2) (by rfl) sc_L_far.nd rfl rfl (by decide) rfl rfl (pa_cons (pe_callP (ok_L_draw T) (hr.mono (by decide)) (by rfl) pass0 (pa_cons (pv 0) (pa_cons pe_int pa_nil))) (pa_cons pe_int pa_nil)) (by rfl))
      (pss_cons (ps_for PassesOwn.never (by rfl) (pi_range1 (by rfl) T.b_range (pa_cons pe_int pa_nil)) (pg_name (i := 3) sc_L_far.nd rfl (Or.inl rfl)) (pss_one (ps_set (i := 2) sc_L_far.nd rfl (Or.inl rfl) (pe_op op_add (pe_op op_mul (pv 2) (pe_op op_pow pe_int pe_int)) (pe_callP (ok_L_draw T) (hr.mono (by decide)) (by rfl) pass0 (pa_cons (pv 0) (pa_cons (pe_op op_pow pe_int pe_int) pa_nil)))))))
      (pss_one (ps_ret (pe_op op_fdivW (pv 2) (pe_ix ix_list (pe_lst (pa_cons pe_int (pa_cons (pe_op op_pow pe_int pe_int) (pa_cons (pe_op op_pow pe_int pe_int) (pa_cons (pe_op op_pow pe_int pe_int) (pa_cons (pe_op op_pow pe_int pe_int) pa_nil)))))) (pv 1) (fun _ _ => rfl))))))), ?_⟩
    refine ⟨_, rfl, p, _, rfl, hp, by decide, by decide, fun r H1 r0 r1 d1 => ⟨_, _, rfl, ?_⟩⟩
    refine ⟨10, rfl, by decide, by decide, for_range (lo := 0) (n := 10) (fun i σ H' => Drew p H H' ∧ ∃ (m : Int) (v : Option V), 0 ≤ m ∧ m < 10 ^ (6 * i) ∧ σ = [some (.ref p), some (.int r), some (.int m), v]) ⟨d1, 0, none, by decide, by decide, rfl⟩ ?_ ?_⟩
    · rintro i σ H' hi ⟨hd, m, v, m0, m1, rfl⟩
      refine ⟨_, rfl, _, _, rfl, rfl, ⟨by decide, by decide, by decide⟩, _, _, rfl, rfl, .inr ⟨by decide, by decide⟩, ?_⟩
      refine ⟨_, rfl, _, _, rfl, rfl, ⟨by decide, by decide, by decide⟩, p, _, rfl, hd.at_, by decide, by decide, fun y H2 y0 y1 d2 => ⟨_, _, rfl, rfl, ?_⟩⟩
      have e6 : (10 : Int) ^ (6 : Int).toNat = 1000000 := by decide
      have y1 : y < 1000000 := by rw [e6] at y1; exact y1
      have e : (10 : Int) ^ (6 * (i + 1)) = 10 ^ (6 * i) * 1000000 := by rw [Nat.mul_add, Int.pow_add]; rfl
      refine ⟨hd.trans d2, m * 10 ^ (6 : Int).toNat + y, _, ?_, ?_, rfl⟩
      · rw [e6]
        omega
      · rw [e6, e]
        omega
    · rintro σ H' ⟨hd, m, v, m0, m1, rfl⟩
      have m1 : m < 10 ^ 60 := m1
      refine ⟨_, rfl, _, _, rfl, rfl, ⟨by decide, by decide, by decide⟩, _, _, rfl, rfl, ⟨by decide, by decide, by decide⟩, _, _, rfl, rfl, ⟨by decide, by decide, by decide⟩, _, _, rfl, rfl, ⟨by decide, by decide, by decide⟩, (by show 5 ≤ sizeLine; decide), fun l hl => ?_⟩
      have d2 := hd.new (o := .lst [.int 1, .int (10 ^ (13 : Int).toNat), .int (10 ^ (30 : Int).toNat), .int (10 ^ (44 : Int).toNat), .int (10 ^ (52 : Int).toNat)]) hl
      obtain ⟨c, hc, c0, c1⟩ : ∃ c : Int, [V.int 1, V.int (10 ^ (13 : Int).toNat), V.int (10 ^ (30 : Int).toNat), V.int (10 ^ (44 : Int).toNat), V.int (10 ^ (52 : Int).toNat)][r.toNat]? = some (.int c) ∧ 0 < c ∧ c.natAbs < 2 ^ 200 := by
        have r5 : r = 0 ∨ r = 1 ∨ r = 2 ∨ r = 3 ∨ r = 4 := by omega
        rcases r5 with rfl | rfl | rfl | rfl | rfl
        · exact ⟨_, rfl, by decide, by decide⟩
        · exact ⟨_, rfl, by decide, by decide⟩
        · exact ⟨_, rfl, by decide, by decide⟩
        · exact ⟨_, rfl, by decide, by decide⟩
        · exact ⟨_, rfl, by decide, by decide⟩
      refine ⟨_, rfl, l, _, _, _, rfl, rfl, SqL.of upd_same, at_of (show r = ((r.toNat : Nat) : Int) by omega) hc, _, _, rfl, rfl, wide_div (b := 200) c0 c1 (by decide) (by decide), ?_⟩
      have q0 := Int.ediv_nonneg m0 (show 0 ≤ c by omega)
      have q1 := Int.ediv_le_self c m0
      exact k _ _ q0 (by omega) d2
theorem ok_L_radix (T : Tx w K mg) : Prom P w K mg base CX0 2 "_law_radix" s_L_radix ["_law_pool_here"] (spDraw 2 256) := by
  refine Prom.of T.d_L_radix sc_L_radix (fun vs H Q E h => ?_) (fun _ _ _ _ _ _ us hl => match us, hl with | [_], _ => rfl) (fun f cdv A outer s H vs Q E hr h => ?_)
  · obtain ⟨p, rfl, _⟩ := h
    rfl
  · obtain ⟨p, rfl, hp, k⟩ := h
    refine ⟨_, (pss_cons (ps_set (i := 1) sc_L_radix.nd rfl (Or.inl rfl) (pe_callP (ok_L_draw T) (hr.mono (by decide)) (by rfl) pass0 (pa_cons (pv 0) (pa_cons pe_int pa_nil))))
      (pss_cons (ps_if (pt_cmp (pc_eqI (pv 1) pe_int)) (pss_one (ps_ret (pe_op op_add pe_int (pe_callP (ok_L_draw T) (hr.mono (by decide)) (by rfl) pass0 (pa_cons (pv 0) (pa_cons pe_int pa_nil)))))) pss_nil)
      (pss_one (ps_ret (pe_ifExp (pt_cmp (pc_eqI (pv 1) pe_int)) pe_int (pe_op op_add pe_int (pe_callP (ok_L_draw T) (hr.mono (by decide)) (by rfl) pass0 (pa_cons (pv 0) (pa_cons pe_int pa_nil))))))))), ?_⟩
    refine ⟨_, rfl, p, _, rfl, hp, by decide, by decide, fun r H2 r0 r1 d2 => ?_⟩
    refine ⟨_, rfl, _, _, rfl, rfl, _, rfl, ifd (fun c => ?_) (fun c => ?_)⟩
    · exact ⟨_, rfl, p, _, rfl, d2.at_, by decide, by decide, fun r' H3 r0' r1' d3 => ⟨_, _, rfl, rfl, k _ _ (by omega) (by omega) (d2.trans d3)⟩⟩
    · refine ⟨_, rfl, _, _, rfl, rfl, _, rfl, ifd (fun c => ?_) (fun c => ?_)⟩
      · exact k _ _ (by decide) (by decide) d2
      · exact ⟨_, rfl, p, _, rfl, d2.at_, by decide, by decide, fun r' H3 r0' r1' d3 => ⟨_, _, rfl, rfl, k _ _ (by omega) (by omega) (d2.trans d3)⟩⟩
theorem ok_L_length (T : Tx w K mg) : Prom P w K mg base CX0 3 "_law_length" s_L_length ["_law_pool_here", "_law_b"] spLLen := by
  refine Prom.of T.d_L_length sc_L_length (fun vs H Q E h => ?_) (fun _ _ _ _ _ _ us hl => match us, hl with | [_, _], _ => rfl) (fun f cdv A outer s H vs Q E hr h => ?_)
  · obtain ⟨p, b, rfl, _⟩ := h
    rfl
  · obtain ⟨p, b, rfl, hp, b0, b1, k⟩ := h
    refine ⟨_, (pss_cons (ps_set (i := 2) sc_L_length.nd rfl (Or.inl rfl) (pe_callP (ok_L_draw T) (hr.mono (by decide)) (by rfl) pass0 (pa_cons (pv 0) (pa_cons pe_int pa_nil))))
      (pss_cons (ps_if (pt_cmp (pc_lt (pv 2) pe_int)) (pss_one (ps_ret (pe_callP (ok_L_draw T) (hr.mono (by decide)) (by rfl) pass0 (pa_cons (pv 0) (pa_cons (pe_ix ix_list (pe_lst (pa_cons pe_int (pa_cons pe_int pa_nil))) (pv 2) (fun _ _ => rfl)) pa_nil))))) pss_nil)
      (pss_cons (ps_if (pt_cmp (pc_eqI (pv 2) pe_int)) (pss_one (ps_ret (pe_op op_sub (pe_op op_sub (pe_op op_pow pe_int pe_int) pe_int) (pe_callP (ok_L_draw T) (hr.mono (by decide)) (by rfl) pass0 (pa_cons (pv 0) (pa_cons pe_int pa_nil)))))) pss_nil)
      (pss_cons (ps_if (pt_cmp (pc_eqI (pv 2) pe_int)) (pss_one (ps_ret (pe_callP (ok_L_far T) (hr.mono (by decide)) (by rfl) pass0 (pa_cons (pv 0) pa_nil)))) pss_nil)
      (pss_cons (ps_set (i := 3) sc_L_length.nd rfl (Or.inl rfl) pe_int)
      (pss_cons (ps_for PassesOwn.never (by rfl) (pi_range1 (by rfl) T.b_range (pa_cons (pe_op op_add pe_int (pe_callP (ok_L_draw T) (hr.mono (by decide)) (by rfl) pass0 (pa_cons (pv 0) (pa_cons pe_int pa_nil)))) pa_nil)) (pg_name (i := 4) sc_L_length.nd rfl (Or.inl rfl)) (pss_one (ps_set (i := 3) sc_L_length.nd rfl (Or.inl rfl) (pe_ifExp (pt_cmp (pc_lt (pe_op op_mul (pv 3) (pv 1)) (pe_op op_pow pe_int pe_int))) (pe_op op_mul (pv 3) (pv 1)) (pv 3)))))
      (pss_one (ps_ret (pe_callB (call_max2 rfl) (by rfl) T.b_max (by decide +kernel) (pa_cons pe_int (pa_cons (pe_op op_sub (pe_op op_add (pv 3) (pe_callP (ok_L_draw T) (hr.mono (by decide)) (by rfl) pass0 (pa_cons (pv 0) (pa_cons pe_int pa_nil)))) pe_int) pa_nil))))))))))), ?_⟩
    refine ⟨_, rfl, p, _, rfl, hp, by decide, by decide, fun r H2 r0 r1 d2 => ?_⟩
    refine ⟨_, rfl, _, _, rfl, rfl, _, rfl, ifd (fun c => ?_) (fun c => ?_)⟩
    · have c : r < 2 := c
      refine ⟨_, rfl, (by show 2 ≤ sizeLine; decide), fun l hl => ?_⟩
      have d3 := d2.new (o := .lst [.int 70, .int 3000]) hl
      obtain ⟨y, hy, y0, y1⟩ : ∃ y : Int, [V.int 70, V.int 3000][r.toNat]? = some (.int y) ∧ 0 < y ∧ y ≤ 3000 := by
        have r5 : r = 0 ∨ r = 1 := by omega
        rcases r5 with rfl | rfl
        · exact ⟨_, rfl, by decide, by decide⟩
        · exact ⟨_, rfl, by decide, by decide⟩
      refine ⟨_, rfl, l, _, _, _, rfl, rfl, SqL.of upd_same, at_of (show r = ((r.toNat : Nat) : Int) by omega) hy, p, y, rfl, d3.at_, y0, by omega, fun z H3 z0 z1 d4 => ?_⟩
      exact k _ _ z0 (Int.le_trans (show z ≤ 3000 by omega) (by decide)) (d3.trans d4)
    · refine ⟨_, rfl, _, _, rfl, rfl, _, rfl, ifd (fun c2 => ?_) (fun c2 => ?_)⟩
      · refine ⟨_, _, rfl, rfl, ⟨by decide, by decide, by decide⟩, _, _, rfl, rfl, _, rfl, p, _, rfl, d2.at_, by decide, by decide, fun z H3 z0 z1 d4 => ⟨_, _, rfl, rfl, ?_⟩⟩
        have e : (10 : Int) ^ (60 : Int).toNat = 10 ^ 60 := rfl
        exact k _ _ (by rw [e]; omega) (by rw [e]; omega) (d2.trans d4)
      · refine ⟨_, rfl, _, _, rfl, rfl, _, rfl, ifd (fun c3 => ?_) (fun c3 => ?_)⟩
        · exact ⟨_, rfl, p, rfl, d2.at_, fun z H3 z0 z1 d4 => k _ _ z0 z1 (d2.trans d4)⟩
        · refine ⟨_, rfl, p, _, rfl, d2.at_, by decide, by decide, fun t H3 t0 t1 d3 => ⟨_, _, rfl, rfl, ?_⟩⟩
          have d3 := d2.trans d3
          refine ⟨_, rfl, by omega, by omega, for_range (lo := 0) (fun i σ H' => H' = H3 ∧ ∃ (m : Int) (v : Option V), 1 ≤ m ∧ m < 10 ^ 59 ∧ σ = [some (.ref p), some (.int b), some (.int r), some (.int m), v]) ⟨rfl, 1, none, by decide, by decide, rfl⟩ ?_ ?_⟩
          · rintro i σ H' hi ⟨rfl, m, v, m0, m1, rfl⟩
            refine ⟨_, rfl, _, rfl, _, _, rfl, rfl, .inr ⟨by omega, by omega⟩, _, _, rfl, rfl, ⟨by decide, by decide, by decide⟩, _, _, rfl, rfl, _, rfl, ifd (fun c => ?_) (fun c => ?_)⟩
            · have c : m * b < 10 ^ 59 := c
              refine ⟨_, rfl, _, rfl, _, _, rfl, rfl, .inr ⟨by omega, by omega⟩, rfl, m * b, _, ?_, c, rfl⟩
              have := Int.mul_le_mul m0 (show 1 ≤ b by omega) (by decide) (by omega)
              omega
            · exact ⟨_, rfl, rfl, m, _, m0, m1, rfl⟩
          · rintro σ H' ⟨rfl, m, v, m0, m1, rfl⟩
            refine ⟨_, rfl, _, rfl, p, _, rfl, d3.at_, by decide, by decide, fun z H4 z0 z1 d4 => ⟨_, _, rfl, rfl, _, _, rfl, rfl, _, _, rfl, ?_⟩⟩
            refine k _ _ ?_ ?_ (d3.trans d4)
            · split <;> omega
            · have e : (10 : Int) ^ 60 = 10 * 10 ^ 59 := by decide
              rw [e]
              split <;> omega
theorem ok_L_constant (T : Tx w K mg) : Prom P w K mg base CX0 2 "_law_constant" s_L_constant ["_law_pool_here", "_law_most"] spConst := by
  refine Prom.of T.d_L_constant sc_L_constant (fun vs H Q E h => ?_) (fun _ _ _ _ _ _ us hl => match us, hl with | [_, _], _ => rfl) (fun f cdv A outer s H vs Q E hr h => ?_)
  · obtain ⟨p, m, rfl, _⟩ := h
    rfl
  · obtain ⟨p, m, rfl, hp, m0, m1, k⟩ := h
    refine ⟨_, (pss_cons (ps_set (i := 2) sc_L_constant.nd rfl (Or.inl rfl) (pe_callP (ok_L_draw T) (hr.mono (by decide)) (by rfl) pass0 (pa_cons (pv 0) (pa_cons pe_int pa_nil))))
      (pss_cons (ps_if (pt_cmp (pc_eqI (pv 2) pe_int)) (pss_one (ps_ret (pe_callP (ok_L_draw T) (hr.mono (by decide)) (by rfl) pass0 (pa_cons (pv 0) (pa_cons pe_int pa_nil))))) pss_nil)
      (pss_one (ps_ret (pe_ifExp (pt_cmp (pc_eqI (pv 2) pe_int)) (pe_op op_sub (pv 1) (pe_callP (ok_L_draw T) (hr.mono (by decide)) (by rfl) pass0 (pa_cons (pv 0) (pa_cons pe_int pa_nil)))) (pe_callP (ok_L_draw T) (hr.mono (by decide)) (by rfl) pass0 (pa_cons (pv 0) (pa_cons (pe_op op_add (pv 1) pe_int) pa_nil)))))))), ?_⟩
    refine ⟨_, rfl, p, _, rfl, hp, by decide, by decide, fun r H2 r0 r1 d2 => ?_⟩
    refine ⟨_, rfl, _, _, rfl, rfl, _, rfl, ifd (fun c => ?_) (fun c => ?_)⟩
    · exact ⟨_, rfl, p, _, rfl, d2.at_, by decide, by decide, fun z H3 z0 z1 d4 => k _ _ z0 (by omega) (d2.trans d4)⟩
    · refine ⟨_, rfl, _, _, rfl, rfl, _, rfl, ifd (fun c => ?_) (fun c => ?_)⟩
      · exact ⟨_, rfl, _, rfl, p, _, rfl, d2.at_, by decide, by decide, fun z H3 z0 z1 d4 => ⟨_, _, rfl, rfl, k _ _ (by omega) (by omega) (d2.trans d4)⟩⟩
      · exact ⟨_, rfl, _, rfl, _, _, rfl, rfl, p, m + 1, rfl, d2.at_, by omega, by omega, fun z H3 z0 z1 d4 => k _ _ z0 (by omega) (d2.trans d4)⟩
end
theorem fig_div {b n : Int} {j : Nat} (hb : 2 ≤ b) (h : b ^ j ≤ n) : figF b n = figF b (n / b ^ j) + j := by
  have pj := pow_pos (show 1 ≤ b by omega) j
  obtain ⟨i, e, h1, h2⟩ := figF_is (b := b) (n := n / b ^ j) hb
  refine (figF_eq hb (n := n) (k := figF b (n / b ^ j) + j) ⟨i + j, by omega, ?_, .inr ?_⟩).symm
  · have z := (Int.ediv_lt_iff_lt_mul (by omega)).mp h1
    have e2 : b ^ (i + j + 1) = b ^ (i + 1) * b ^ j := by rw [← Int.pow_add]; congr 1; omega
    rw [e2]
    exact z
  · rw [Int.pow_add]
    rcases h2 with h2 | h2
    · rw [h2, Int.pow_zero, Int.one_mul]
      exact h
    · exact (Int.le_ediv_iff_mul_le (by omega)).mp h2
theorem fig_one {b n : Int} (hb : 2 ≤ b) (h : n < b) : figF b n = 1 := (figF_eq hb (n := n) (k := 1) ⟨0, rfl, by rw [pow_one]; exact h, .inl rfl⟩).symm
def spLFigs : Sp := fun vs H Q _ => ∃ n b : Int, vs = [.int n, .int b] ∧ 2 ≤ b ∧ b ≤ 256 ∧ 0 ≤ n ∧ Q (.int (figF b n)) H
section
variable {P : Program} {w : World} {K : PySem.W.Frag} {mg : Str → Option Value} {base : Heap}
theorem ok_L_figures (T : Tx w K mg) : Prom P w K mg base CX0 1 "_law_figures" s_L_figures ["_law_n", "_law_b"] spLFigs := by
  refine Prom.of T.d_L_figures sc_L_figures (fun vs H Q E h => ?_) (fun _ _ _ _ _ _ us hl => match us, hl with | [_, _], _ => rfl) (fun f cdv A outer s H vs Q E hr h => ?_)
  · obtain ⟨n, b, rfl, _⟩ := h
    rfl
  · obtain ⟨n, b, rfl, hb, hb2, n0, k⟩ := h
    have p16 := pow_lt hb 0
    have g16 : ∀ m : Nat, b ^ m ≤ 256 ^ m := fun m => by
      induction m with
      | zero => rw [Int.pow_zero, Int.pow_zero]; exact Int.le_refl _
      | succ m ih =>
        rw [Int.pow_succ, Int.pow_succ]
        exact Int.mul_le_mul ih hb2 (by omega) (Int.le_of_lt (Int.lt_of_lt_of_le (by decide) (pow_pos (show (1 : Int) ≤ 256 by decide) m)))
    have f0 : b ^ 1 ≤ b ^ 16 := pow_mono (by omega) (by decide)
    have f1 : b ^ 1 = b := pow_one b
    have f2 := g16 16
    have f3 : (b ^ 16).natAbs < 2 ^ 130 := by
      have : (b ^ 16).natAbs ≤ 256 ^ 16 := by
        have e : (256 : Int) ^ 16 = ((256 ^ 16 : Nat) : Int) := by decide
        rw [e] at f2
        omega
      exact Nat.lt_of_le_of_lt this (by decide)
    refine ⟨_, (pss_cons (ps_par (i := 2) (j := 3) (by rfl) sc_L_figures.nd rfl rfl (by decide) rfl rfl (pa_cons (pe_op op_pow (pv 1) pe_int) (pa_cons pe_int pa_nil)) (by rfl))
      (pss_cons (ps_while PassesOwn.never (pt_cmp (pc_ge (pv 0) (pv 2))) (pss_one (ps_par (i := 0) (j := 3) (by rfl) sc_L_figures.nd rfl rfl (by decide) rfl rfl (pa_cons (pe_op op_fdivW (pv 0) (pv 2)) (pa_cons (pe_op op_add (pv 3) pe_int) pa_nil)) (by rfl))))
      (pss_cons (ps_while PassesOwn.never (pt_cmp (pc_ge (pv 0) (pv 1))) (pss_one (ps_par (i := 0) (j := 3) (by rfl) sc_L_figures.nd rfl rfl (by decide) rfl rfl (pa_cons (pe_op op_fdivW (pv 0) (pv 1)) (pa_cons (pe_op op_add (pv 3) pe_int) pa_nil)) (by rfl))))
      (pss_one (ps_ret (pv 3)))))), ?_⟩
    refine ⟨_, rfl, _, _, rfl, rfl, ⟨by decide, by decide, ?_⟩, _, _, rfl, ?_⟩
    · show b.natAbs < 2 ^ 64
      omega
    refine ⟨fun m σ H2 => H2 = H ∧ ∃ (y c : Int), σ = [some (.int y), some (.int b), some (.int (b ^ 16)), some (.int c)] ∧ 0 ≤ y ∧ figF b n = figF b y + c - 1 ∧ m = y.toNat, ⟨_, rfl, n, 1, rfl, n0, by omega, rfl⟩, ?_⟩
    rintro m σ H2 ⟨rfl, y, c, rfl, y0, ey, rfl⟩
    refine ⟨_, rfl, _, rfl, _, _, rfl, rfl, _, rfl, ifd (fun z => ?_) (fun z => ?_)⟩
    · have z : y ≥ b ^ 16 := z
      refine ⟨_, fun σ' H' h => h, ?_⟩
      refine ⟨_, rfl, _, rfl, _, _, rfl, rfl, wide_div (b := 130) (by omega) f3 (by decide) (by decide), _, rfl, _, _, rfl, rfl, _, _, rfl, ?_⟩
      have q0 := Int.ediv_nonneg y0 (show 0 ≤ b ^ 16 by omega)
      have q1 : y / b ^ 16 < y := Int.ediv_lt_of_lt_mul (by omega) (by
        have := Int.mul_le_mul_of_nonneg_left (show 2 ≤ b ^ 16 by omega) y0
        omega)
      refine ⟨_, ?_, rfl, y / b ^ 16, c + 16, rfl, q0, ?_, rfl⟩
      · omega
      · rw [ey, fig_div hb z]
        omega
    · refine ⟨fun m σ H3 => H3 = H2 ∧ ∃ (y c : Int), σ = [some (.int y), some (.int b), some (.int (b ^ 16)), some (.int c)] ∧ 0 ≤ y ∧ figF b n = figF b y + c - 1 ∧ m = y.toNat, ⟨_, rfl, y, c, rfl, y0, ey, rfl⟩, ?_⟩
      clear z ey y0
      rintro m σ H3 ⟨rfl, y, c, rfl, y0, ey, rfl⟩
      refine ⟨_, rfl, _, rfl, _, _, rfl, rfl, _, rfl, ifd (fun z => ?_) (fun z => ?_)⟩
      · have z : y ≥ b := z
        refine ⟨_, fun σ' H' h => h, ?_⟩
        refine ⟨_, rfl, _, rfl, _, _, rfl, rfl, wide_div (b := 10) (by omega) (by omega) (by decide) (by decide), _, rfl, _, _, rfl, rfl, _, _, rfl, ?_⟩
        have q0 := Int.ediv_nonneg y0 (show 0 ≤ b by omega)
        have q1 : y / b < y := Int.ediv_lt_of_lt_mul (by omega) (by
          have := Int.mul_le_mul_of_nonneg_left (show 2 ≤ b by omega) y0
          omega)
        refine ⟨_, ?_, rfl, y / b, c + 1, rfl, q0, ?_, rfl⟩
        · omega
        · have := fig_div (j := 1) hb (show b ^ 1 ≤ y by omega)
          rw [f1] at this
          rw [ey, this]
          omega
      · have z : ¬ y ≥ b := z
        have := fig_one hb (show y < b by omega)
        rw [this] at ey
        have e : c = figF b n := by omega
        rw [← e] at k
        exact ⟨_, rfl, k⟩
end
/-! ### the law's own tags: a kind and its numbers -/
def TagAt (H : Hp) (p : Addr) (a : Wr) : Prop := H p = some (.tup (.str a.kind :: a.nums.map V.int))
inductive TagsAt (H : Hp) : List V → List Wr → Prop where
  | nil : TagsAt H [] []
  | cons {p : Addr} {a : Wr} {xs : List V} {ws : List Wr} (h : TagAt H p a) (r : TagsAt H xs ws) : TagsAt H (.ref p :: xs) (a :: ws)
theorem TagsAt.len {H : Hp} {xs : List V} {ws : List Wr} (h : TagsAt H xs ws) : xs.length = ws.length := by
  induction h with
  | nil => rfl
  | cons _ _ ih => exact congrArg (· + 1) ih
theorem TagsAt.get {H : Hp} {xs : List V} {ws : List Wr} (h : TagsAt H xs ws) : ∀ {i : Nat} {x : V}, xs[i]? = some x → ∃ (p : Addr) (a : Wr), x = .ref p ∧ ws[i]? = some a ∧ TagAt H p a := by
  induction h with
  | nil =>
    intro i x e
    simp at e
  | cons h _ ih =>
    intro i x e
    cases i with
    | zero =>
      simp at e
      exact ⟨_, _, e.symm, rfl, h⟩
    | succ i => exact ih (by simpa using e)
theorem TagsAt.same {H H' : Hp} {xs : List V} {ws : List Wr} (h : TagsAt H xs ws) (s : Same H H') : TagsAt H' xs ws := by
  induction h with
  | nil => exact .nil
  | cons h _ ih => exact .cons (s _ _ h) ih
theorem TagsAt.snoc {H : Hp} {xs : List V} {ws : List Wr} {p : Addr} {a : Wr} (h : TagsAt H xs ws) (hx : TagAt H p a) : TagsAt H (xs ++ [.ref p]) (ws ++ [a]) := by
  induction h with
  | nil => exact .cons hx .nil
  | cons h _ ih => exact .cons h ih
theorem TagsAt.dropLast {H : Hp} {xs : List V} {ws : List Wr} (h : TagsAt H xs ws) : TagsAt H xs.dropLast ws.dropLast := by
  induction h with
  | nil => exact .nil
  | cons h r ih =>
    cases r with
    | nil => exact .nil
    | cons h2 r2 => exact .cons h ih
theorem TagsAt.put {H : Hp} {l : Addr} {xs : List V} {ys zs : List V} {ws : List Wr} (h : TagsAt H xs ws) (hl : H l = some (.lst ys)) : TagsAt (upd H l (.lst zs)) xs ws := by
  induction h with
  | nil => exact .nil
  | @cons q a xs ws h _ ih =>
    refine .cons ?_ ih
    have h : H q = _ := h
    show (upd H l _) q = _
    rw [upd_ne (fun z => by rw [z, hl] at h; cases h)]
    exact h
theorem Drew.tag {p q : Addr} {H H1 : Hp} {a : Wr} (d : Drew p H H1) (hp : PurseAt H p) (h : TagAt H q a) : TagAt H1 q a := d.keep hp h (fun _ z => by cases z)
theorem Drew.tags {p : Addr} {H H1 : Hp} {xs : List V} {ws : List Wr} (d : Drew p H H1) (hp : PurseAt H p) (h : TagsAt H xs ws) : TagsAt H1 xs ws := by
  induction h with
  | nil => exact .nil
  | cons h _ ih => exact .cons (d.tag hp h) ih
def spLOver : Sp := fun vs H Q _ => ∃ (p : Addr) (a : Wr) (n b : Int), vs = [.ref p, .int n, .int b] ∧ TagAt H p a ∧ a.ok ∧ 2 ≤ b ∧ b ≤ 256 ∧ 0 ≤ n ∧ ∀ H', Same H H' → Q (.int (a.gr b n)) H'
section
variable {P : Program} {w : World} {K : PySem.W.Frag} {mg : Str → Option Value} {base : Heap}
theorem ok_L_over (T : Tx w K mg) : Prom P w K mg base CX0 2 "_law_over" s_L_over ["_law_tag", "_law_n", "_law_b"] spLOver := by
  refine Prom.of T.d_L_over sc_L_over (fun vs H Q E h => ?_) (fun _ _ _ _ _ _ us hl => match us, hl with | [_, _, _], _ => rfl) (fun f cdv A outer s H vs Q E hr h => ?_)
  · obtain ⟨p, a, n, b, rfl, _⟩ := h
    rfl
  · obtain ⟨p, a, n, b, rfl, hp, ha, b0, b1, n0, k⟩ := h
    have hp : H p = _ := hp
    have k0 := k H (Same.refl H)
    refine ⟨_, (pss_cons (ps_if (pt_cmpR op_eq (pe_ix ix_tup (pv 0) pe_int (fun _ _ => rfl)) pe_str (nomark _)) (pss_one (ps_ret (pe_op op_add (pv 1) (pe_ix ix_tup (pv 0) pe_int (fun _ _ => rfl))))) pss_nil)
      (pss_cons (ps_if (pt_cmpR op_eq (pe_ix ix_tup (pv 0) pe_int (fun _ _ => rfl)) pe_str (nomark _)) (pss_one (ps_ret (pe_op op_add (pe_op op_add (pv 1) (pe_ix ix_tup (pv 0) pe_int (fun _ _ => rfl))) (pe_callP (ok_L_figures T) (hr.mono (by decide)) (by rfl) pass0 (pa_cons (pv 1) (pa_cons (pv 2) pa_nil)))))) pss_nil)
      (pss_cons (ps_if (pt_cmpR op_eq (pe_ix ix_tup (pv 0) pe_int (fun _ _ => rfl)) pe_str (nomark _)) (pss_cons (ps_set (i := 3) sc_L_over.nd rfl (Or.inl rfl) (pe_callP (ok_L_figures T) (hr.mono (by decide)) (by rfl) pass0 (pa_cons (pe_op op_add (pv 1) (pe_ix ix_tup (pv 0) pe_int (fun _ _ => rfl))) (pa_cons (pv 2) pa_nil))))
      (pss_one (ps_ret (pe_op op_add (pe_op op_add (pv 1) (pe_ix ix_tup (pv 0) pe_int (fun _ _ => rfl))) (pe_ifExp (pt_cmp (pc_eqI (pe_callP (ok_L_figures T) (hr.mono (by decide)) (by rfl) pass0 (pa_cons (pe_op op_add (pe_op op_add (pv 1) (pe_ix ix_tup (pv 0) pe_int (fun _ _ => rfl))) (pv 3)) (pa_cons (pv 2) pa_nil))) (pv 3))) (pv 3) (pe_op op_add (pv 3) pe_int)))))) pss_nil)
      (pss_cons (ps_if (pt_cmpR op_eq (pe_ix ix_tup (pv 0) pe_int (fun _ _ => rfl)) pe_str (nomark _)) (pss_cons (ps_asg (pe_callB call_divmodW (by rfl) T.b_divmod (by decide +kernel) (pa_cons (pv 1) (pa_cons (pe_ix ix_tup (pv 0) pe_int (fun _ _ => rfl)) pa_nil))) (pg_tup rfl (pgs_cons (pg_name (i := 4) sc_L_over.nd rfl (Or.inl rfl)) (pgs_cons (pg_name (i := 5) sc_L_over.nd rfl (Or.inl rfl)) pgs_nil))))
      (pss_cons (ps_set (i := 6) sc_L_over.nd rfl (Or.inl rfl) (pe_ifExp (pt_cmp (pc_gt (pv 5) pe_int)) (pe_op op_add (pe_op op_add (pv 5) (pe_ix ix_tup (pv 0) pe_int (fun _ _ => rfl))) (pe_callP (ok_L_figures T) (hr.mono (by decide)) (by rfl) pass0 (pa_cons (pv 5) (pa_cons (pv 2) pa_nil)))) pe_int))
      (pss_one (ps_ret (pe_op op_add (pe_op op_add (pe_op op_add (pe_op op_mul (pv 4) (pe_op op_add (pe_op op_add (pe_ix ix_tup (pv 0) pe_int (fun _ _ => rfl)) (pe_ix ix_tup (pv 0) pe_int (fun _ _ => rfl))) (pe_callP (ok_L_figures T) (hr.mono (by decide)) (by rfl) pass0 (pa_cons (pe_ix ix_tup (pv 0) pe_int (fun _ _ => rfl)) (pa_cons (pv 2) pa_nil))))) (pv 6)) (pe_ix ix_tup (pv 0) pe_int (fun _ _ => rfl))) pe_int))))) pss_nil)
      (pss_cons (ps_set (i := 7) sc_L_over.nd rfl (Or.inl rfl) (pe_op op_fdiv (pe_op op_sub (pe_op op_add (pv 1) (pe_ix ix_tup (pv 0) pe_int (fun _ _ => rfl))) pe_int) (pe_ix ix_tup (pv 0) pe_int (fun _ _ => rfl))))
      (pss_cons (ps_if (pt_cmpR op_eq (pe_ix ix_tup (pv 0) pe_int (fun _ _ => rfl)) pe_str (nomark _)) (pss_one (ps_ret (pe_op op_add (pv 1) (pe_op op_mul (pv 7) (pe_ix ix_tup (pv 0) pe_int (fun _ _ => rfl)))))) pss_nil)
      (pss_one (ps_ret (pe_op op_mul (pv 7) (pe_ifExp (pt_cmpR op_eq (pe_ix ix_tup (pv 0) pe_int (fun _ _ => rfl)) pe_str (nomark _)) (pe_ix ix_tup (pv 0) pe_int (fun _ _ => rfl)) (pe_ix ix_tup (pv 0) pe_int (fun _ _ => rfl)))))))))))), ?_⟩
    cases a with
    | plus c =>
      simp only [Wr.ok] at ha
      refine ⟨_, rfl, p, _, _, _, rfl, rfl, SqT.of hp, rfl, rfl, _, rfl, ifd_pos rfl ?_⟩
      exact ⟨_, rfl, _, rfl, p, _, _, _, rfl, rfl, SqT.of hp, rfl, _, _, rfl, rfl, k0⟩
    | told c =>
      simp only [Wr.ok] at ha
      refine ⟨_, rfl, p, _, _, _, rfl, rfl, SqT.of hp, rfl, rfl, _, rfl, ifs_neg (show ("told" : Str) ≠ "plus" by decide) ?_⟩
      refine ⟨_, rfl, p, _, _, _, rfl, rfl, SqT.of hp, rfl, rfl, _, rfl, ifd_pos rfl ?_⟩
      exact ⟨_, rfl, _, rfl, p, _, _, _, rfl, rfl, SqT.of hp, rfl, _, _, rfl, rfl, _, rfl, _, rfl, n, b, rfl, b0, b1, n0, _, _, rfl, rfl, k0⟩
    | whole c =>
      simp only [Wr.ok] at ha
      refine ⟨_, rfl, p, _, _, _, rfl, rfl, SqT.of hp, rfl, rfl, _, rfl, ifs_neg (show ("whole" : Str) ≠ "plus" by decide) ?_⟩
      refine ⟨_, rfl, p, _, _, _, rfl, rfl, SqT.of hp, rfl, rfl, _, rfl, ifs_neg (show ("whole" : Str) ≠ "told" by decide) ?_⟩
      refine ⟨_, rfl, p, _, _, _, rfl, rfl, SqT.of hp, rfl, rfl, _, rfl, ifd_pos rfl ?_⟩
      refine ⟨_, rfl, _, rfl, p, _, _, _, rfl, rfl, SqT.of hp, rfl, _, _, rfl, rfl, _, rfl, n + c, b, rfl, b0, b1, by omega, ?_⟩
      refine ⟨_, rfl, _, rfl, p, _, _, _, rfl, rfl, SqT.of hp, rfl, _, _, rfl, rfl, ?_⟩
      refine ⟨_, rfl, _, rfl, p, _, _, _, rfl, rfl, SqT.of hp, rfl, _, _, rfl, rfl, _, rfl, _, _, rfl, rfl, _, rfl, n + c + figF b (n + c), b, rfl, b0, b1, ?_, _, rfl, _, _, rfl, rfl, _, rfl, ?_⟩
      · have := figF_pos (b := b) (n := n + c) b0
        omega
      have f := figF_is (b := b) (n := n + c) b0
      have g := figF_is (b := b) (n := n + c + figF b (n + c)) b0
      refine ifd (fun z => ?_) (fun z => ?_)
      · have z : figF b (n + c + figF b (n + c)) = figF b (n + c) := z
        rw [z] at g
        have et := totF_eq b0 (show 0 ≤ n + c by omega) (isTot_first b0 f g)
        simp only [Wr.gr] at k0
        rw [← et] at k0
        exact ⟨_, rfl, _, _, rfl, rfl, k0⟩
      · have z : ¬ figF b (n + c + figF b (n + c)) = figF b (n + c) := z
        have e := (fig_grow b0 (show 0 ≤ n + c by omega) f g).resolve_left z
        rw [e] at g
        have et := totF_eq b0 (show 0 ≤ n + c by omega) (isTot_second b0 (show 0 ≤ n + c by omega) f g)
        simp only [Wr.gr] at k0
        rw [← et, show n + c + figF b (n + c) + 1 = n + c + (figF b (n + c) + 1) by omega] at k0
        exact ⟨_, rfl, _, _, rfl, rfl, _, _, rfl, rfl, k0⟩
    | pieces m c =>
      simp only [Wr.ok] at ha
      refine ⟨_, rfl, p, _, _, _, rfl, rfl, SqT.of hp, rfl, rfl, _, rfl, ifs_neg (show ("pieces" : Str) ≠ "plus" by decide) ?_⟩
      refine ⟨_, rfl, p, _, _, _, rfl, rfl, SqT.of hp, rfl, rfl, _, rfl, ifs_neg (show ("pieces" : Str) ≠ "told" by decide) ?_⟩
      refine ⟨_, rfl, p, _, _, _, rfl, rfl, SqT.of hp, rfl, rfl, _, rfl, ifs_neg (show ("pieces" : Str) ≠ "whole" by decide) ?_⟩
      refine ⟨_, rfl, p, _, _, _, rfl, rfl, SqT.of hp, rfl, rfl, _, rfl, ifd_pos rfl ?_⟩
      have r0 := Int.emod_nonneg n (show m ≠ 0 by omega)
      have r1 := Int.emod_lt_of_pos n (show 0 < m by omega)
      have f1 := fig_small (b := b) (m := m) b0 ha.2.1
      have f2 := figF_pos (b := b) (n := m) b0
      refine ⟨_, rfl, _, rfl, p, _, _, _, rfl, rfl, SqT.of hp, rfl, _, _, rfl, divp_small (by omega) (by omega), fun t ht => ⟨t, _, rfl, SqT.of upd_same, rfl, _, _, rfl, _, _, rfl, rfl, ?_⟩⟩
      have s1 := up (o := .tup [.int (n / m), .int (n % m)]) ht
      have hp := s1 _ _ hp
      have k1 := k _ s1
      simp only [Wr.gr] at k1
      generalize upd H t (.tup [.int (n / m), .int (n % m)]) = H1 at s1 hp k1 ⊢
      refine ⟨_, rfl, _, _, rfl, rfl, _, rfl, ifd (fun z => ?_) (fun z => ?_)⟩
      · have z : n % m > 0 := z
        rw [if_pos z] at k1
        refine ⟨_, rfl, _, rfl, p, _, _, _, rfl, rfl, SqT.of hp, rfl, _, _, rfl, rfl, _, rfl, _, rfl, n % m, b, rfl, b0, b1, r0, _, _, rfl, rfl, ?_⟩
        refine ⟨_, rfl, _, rfl, p, _, _, _, rfl, rfl, SqT.of hp, rfl, _, rfl, p, _, _, _, rfl, rfl, SqT.of hp, rfl, _, _, rfl, rfl, _, rfl, p, _, _, _, rfl, rfl, SqT.of hp, rfl, _, rfl, m, b, rfl, b0, b1, by omega, _, _, rfl, rfl, _, _, rfl, rfl, .inr ⟨(show -(2 ^ 64) < m + c + figF b m by omega), (show m + c + figF b m < 2 ^ 64 by omega)⟩, ?_⟩
        exact ⟨_, rfl, _, _, rfl, rfl, _, rfl, p, _, _, _, rfl, rfl, SqT.of hp, rfl, _, _, rfl, rfl, _, _, rfl, rfl, k1⟩
      · have z : ¬ n % m > 0 := z
        rw [if_neg z] at k1
        refine ⟨_, rfl, _, rfl, p, _, _, _, rfl, rfl, SqT.of hp, rfl, _, rfl, p, _, _, _, rfl, rfl, SqT.of hp, rfl, _, _, rfl, rfl, _, rfl, p, _, _, _, rfl, rfl, SqT.of hp, rfl, _, rfl, m, b, rfl, b0, b1, by omega, _, _, rfl, rfl, _, _, rfl, rfl, .inr ⟨(show -(2 ^ 64) < m + c + figF b m by omega), (show m + c + figF b m < 2 ^ 64 by omega)⟩, ?_⟩
        exact ⟨_, rfl, _, _, rfl, rfl, _, rfl, p, _, _, _, rfl, rfl, SqT.of hp, rfl, _, _, rfl, rfl, _, _, rfl, rfl, k1⟩
    | cut m c =>
      simp only [Wr.ok] at ha
      refine ⟨_, rfl, p, _, _, _, rfl, rfl, SqT.of hp, rfl, rfl, _, rfl, ifs_neg (show ("cut" : Str) ≠ "plus" by decide) ?_⟩
      refine ⟨_, rfl, p, _, _, _, rfl, rfl, SqT.of hp, rfl, rfl, _, rfl, ifs_neg (show ("cut" : Str) ≠ "told" by decide) ?_⟩
      refine ⟨_, rfl, p, _, _, _, rfl, rfl, SqT.of hp, rfl, rfl, _, rfl, ifs_neg (show ("cut" : Str) ≠ "whole" by decide) ?_⟩
      refine ⟨_, rfl, p, _, _, _, rfl, rfl, SqT.of hp, rfl, rfl, _, rfl, ifs_neg (show ("cut" : Str) ≠ "pieces" by decide) ?_⟩
      refine ⟨_, rfl, _, rfl, p, _, _, _, rfl, rfl, SqT.of hp, rfl, _, _, rfl, rfl, _, _, rfl, rfl, _, rfl, p, _, _, _, rfl, rfl, SqT.of hp, rfl, _, _, rfl, rfl, ⟨(show 0 < m by omega), (show m < 1073741824 by omega)⟩, ?_⟩
      refine ⟨_, rfl, p, _, _, _, rfl, rfl, SqT.of hp, rfl, rfl, _, rfl, ifd_pos rfl ?_⟩
      exact ⟨_, rfl, _, rfl, _, rfl, p, _, _, _, rfl, rfl, SqT.of hp, rfl, _, _, rfl, rfl, .inr ⟨(show -(2 ^ 64) < c by omega), (show c < 2 ^ 64 by omega)⟩, _, _, rfl, rfl, k0⟩
    | coded m c =>
      simp only [Wr.ok] at ha
      refine ⟨_, rfl, p, _, _, _, rfl, rfl, SqT.of hp, rfl, rfl, _, rfl, ifs_neg (show ("coded" : Str) ≠ "plus" by decide) ?_⟩
      refine ⟨_, rfl, p, _, _, _, rfl, rfl, SqT.of hp, rfl, rfl, _, rfl, ifs_neg (show ("coded" : Str) ≠ "told" by decide) ?_⟩
      refine ⟨_, rfl, p, _, _, _, rfl, rfl, SqT.of hp, rfl, rfl, _, rfl, ifs_neg (show ("coded" : Str) ≠ "whole" by decide) ?_⟩
      refine ⟨_, rfl, p, _, _, _, rfl, rfl, SqT.of hp, rfl, rfl, _, rfl, ifs_neg (show ("coded" : Str) ≠ "pieces" by decide) ?_⟩
      refine ⟨_, rfl, _, rfl, p, _, _, _, rfl, rfl, SqT.of hp, rfl, _, _, rfl, rfl, _, _, rfl, rfl, _, rfl, p, _, _, _, rfl, rfl, SqT.of hp, rfl, _, _, rfl, rfl, ⟨(show 0 < m by omega), (show m < 1073741824 by omega)⟩, ?_⟩
      refine ⟨_, rfl, p, _, _, _, rfl, rfl, SqT.of hp, rfl, rfl, _, rfl, ifs_neg (show ("coded" : Str) ≠ "cut" by decide) ?_⟩
      refine ⟨_, rfl, _, rfl, p, _, _, _, rfl, rfl, SqT.of hp, rfl, rfl, _, rfl, ifd_pos rfl ?_⟩
      exact ⟨_, rfl, p, _, _, _, rfl, rfl, SqT.of hp, rfl, _, _, rfl, rfl, .inr ⟨(show -(2 ^ 64) < c by omega), (show c < 2 ^ 64 by omega)⟩, k0⟩
    | filled m =>
      simp only [Wr.ok] at ha
      refine ⟨_, rfl, p, _, _, _, rfl, rfl, SqT.of hp, rfl, rfl, _, rfl, ifs_neg (show ("filled" : Str) ≠ "plus" by decide) ?_⟩
      refine ⟨_, rfl, p, _, _, _, rfl, rfl, SqT.of hp, rfl, rfl, _, rfl, ifs_neg (show ("filled" : Str) ≠ "told" by decide) ?_⟩
      refine ⟨_, rfl, p, _, _, _, rfl, rfl, SqT.of hp, rfl, rfl, _, rfl, ifs_neg (show ("filled" : Str) ≠ "whole" by decide) ?_⟩
      refine ⟨_, rfl, p, _, _, _, rfl, rfl, SqT.of hp, rfl, rfl, _, rfl, ifs_neg (show ("filled" : Str) ≠ "pieces" by decide) ?_⟩
      refine ⟨_, rfl, _, rfl, p, _, _, _, rfl, rfl, SqT.of hp, rfl, _, _, rfl, rfl, _, _, rfl, rfl, _, rfl, p, _, _, _, rfl, rfl, SqT.of hp, rfl, _, _, rfl, rfl, ⟨(show 0 < m by omega), (show m < 1073741824 by omega)⟩, ?_⟩
      refine ⟨_, rfl, p, _, _, _, rfl, rfl, SqT.of hp, rfl, rfl, _, rfl, ifs_neg (show ("filled" : Str) ≠ "cut" by decide) ?_⟩
      refine ⟨_, rfl, _, rfl, p, _, _, _, rfl, rfl, SqT.of hp, rfl, rfl, _, rfl, ifs_neg (show ("filled" : Str) ≠ "coded" by decide) ?_⟩
      exact ⟨_, rfl, p, _, _, _, rfl, rfl, SqT.of hp, rfl, _, _, rfl, rfl, .inr ⟨(show -(2 ^ 64) < m by omega), (show m < 2 ^ 64 by omega)⟩, k0⟩
end
def tagD (a : Wr) : PyData := .tuple (.str a.kind :: a.nums.map PyData.int)
theorem TagsAt.dp {K : PySem.W.Frag} {H : Hp} {xs : List V} {ws : List Wr} (h : TagsAt H xs ws) : DpAll K H xs (ws.map tagD) := by
  induction h with
  | nil => exact .nil
  | cons h _ ih => exact .cons (.tup (SqT.of h) (.cons (.str _) (dp_ints _))) ih
theorem tag_shp (a : Wr) : Shp (tagD a) 1 := shp_tuple (k := 0) fun d hd => by
  rcases List.mem_cons.mp hd with rfl | hd
  · exact shp_str (by cases a <;> simp only [Wr.kind] <;> decide +kernel)
  · obtain ⟨i, _, rfl⟩ := List.mem_map.mp hd
    exact shp_int i
theorem tags_shp (ws : List Wr) : Shp (.list (ws.map tagD)) 2 := shp_list fun d hd => by
  obtain ⟨a, _, rfl⟩ := List.mem_map.mp hd
  exact tag_shp a
def spLLong : Sp := fun vs H Q _ => ∃ (l : Addr) (xs : List V) (ws : List Wr) (n b : Int), vs = [.ref l, .int n, .int b] ∧ H l = some (.lst xs) ∧ TagsAt H xs ws ∧ (∀ a ∈ ws, a.ok) ∧ 2 ≤ b ∧ b ≤ 256 ∧ 0 ≤ n ∧ ∀ H', Same H H' → Q (.int (grS b ws n)) H'
def spLFine : Sp := fun vs H Q _ => ∃ (l : Addr) (xs : List V) (ws : List Wr), vs = [.ref l] ∧ H l = some (.lst xs) ∧ TagsAt H xs ws ∧ (∀ a ∈ ws, a.ok) ∧ ∀ H', Same H H' → Q (.int (fineL ws)) H'
def spLTag : Sp := fun vs H Q _ => ∃ (p : Addr) (r : Int), vs = [.ref p, .int r] ∧ PurseAt H p ∧ 1 ≤ r ∧ r ≤ 120 ∧ ∀ q a H', a.ok → a.use ≤ r → H q = none → Drew p H H' → TagAt H' q a → Q (.ref q) H'
def spLMade (K : PySem.W.Frag) : Sp := fun vs H Q _ => ∃ (p : Addr) (a : Wr), vs = [.ref p] ∧ TagAt H p a ∧ a.ok ∧ ∀ q H', H q = none → Same H H' → WrapAt K H' q a → Q (.ref q) H'
theorem grS_nonneg {b : Int} (hb : 2 ≤ b) : ∀ (ws : List Wr), (∀ a ∈ ws, a.ok) → ∀ {n : Int}, 0 ≤ n → 0 ≤ grS b ws n
  | [], _, n, h => h
  | a :: ws, ha, n, h => grS_nonneg hb ws (fun x hx => ha x (List.mem_cons_of_mem _ hx)) (gr_le hb (ha a (List.mem_cons_self ..)) h).1
section
variable {P : Program} {w : World} {K : PySem.W.Frag} {mg : Str → Option Value} {base : Heap}
theorem ok_L_long (T : Tx w K mg) : Prom P w K mg base CX0 3 "_law_long" s_L_long ["_law_tags", "_law_n", "_law_b"] spLLong := by
  refine Prom.of T.d_L_long sc_L_long (fun vs H Q E h => ?_) (fun _ _ _ _ _ _ us hl => match us, hl with | [_, _, _], _ => rfl) (fun f cdv A outer s H vs Q E hr h => ?_)
  · obtain ⟨l, xs, ws, n, b, rfl, _⟩ := h
    rfl
  · obtain ⟨l, xs, ws, n, b, rfl, hl, hw, ha, b0, b1, n0, k⟩ := h
    refine ⟨_, (pss_cons (ps_for PassesOwn.never (by rfl) (pi_list (pv 0)) (pg_name (i := 3) sc_L_long.nd rfl (Or.inl rfl)) (pss_one (ps_set (i := 1) sc_L_long.nd rfl (Or.inl rfl) (pe_callP (ok_L_over T) (hr.mono (by decide)) (by rfl) pass0 (pa_cons (pv 3) (pa_cons (pv 1) (pa_cons (pv 2) pa_nil)))))))
      (pss_one (ps_ret (pv 1)))), ?_⟩
    refine ⟨_, rfl, l, rfl, ⟨_, SqL.of hl⟩, for_list (K := K) (a := l) (xs := xs) (fun i σ H' => Same H H' ∧ ∃ v, σ = [some (.ref l), some (.int (grS b (ws.take i) n)), some (.int b), v]) ⟨Same.refl H, none, rfl⟩ (fun i σ H' _ h => SqL.of (h.1 _ _ hl)) ?_ ?_⟩
    · rintro i x σ H' hi ⟨hs, v, rfl⟩
      obtain ⟨p, a, rfl, hp, pa⟩ := hw.get hi
      have et : grS b (ws.take (i + 1)) n = a.gr b (grS b (ws.take i) n) := by
        unfold grS
        rw [List.take_succ, hp, List.foldl_append]
        rfl
      rw [et]
      refine ⟨_, rfl, _, rfl, _, rfl, p, a, _, b, rfl, hs _ _ pa, ha a (List.mem_of_getElem? hp), b0, b1, grS_nonneg b0 _ (fun z hz => ha z (List.mem_of_mem_take hz)) n0, fun H2 s2 => ?_⟩
      exact ⟨hs.trans s2, _, rfl⟩
    · rintro σ H' ⟨hs, v, rfl⟩
      rw [hw.len, List.take_length]
      exact ⟨_, rfl, k _ hs⟩
theorem ok_L_fine (T : Tx w K mg) : Prom P w K mg base CX0 1 "_law_fine" s_L_fine ["_law_tags"] spLFine := by
  refine Prom.of T.d_L_fine sc_L_fine (fun vs H Q E h => ?_) (fun _ _ _ _ _ _ us hl => match us, hl with | [_], _ => rfl) (fun f cdv A outer s H vs Q E hr h => ?_)
  · obtain ⟨l, xs, ws, rfl, _⟩ := h
    rfl
  · obtain ⟨l, xs, ws, rfl, hl, hw, ha, k⟩ := h
    refine ⟨_, (pss_cons (ps_set (i := 1) sc_L_fine.nd rfl (Or.inl rfl) pe_int)
      (pss_cons (ps_for PassesOwn.never (by rfl) (pi_list (pv 0)) (pg_name (i := 2) sc_L_fine.nd rfl (Or.inl rfl)) (pss_one (ps_if (pt_cmpR op_in_seq (pe_ix ix_tup (pv 2) pe_int (fun _ _ => rfl)) (pe_lst (pa_cons pe_str (pa_cons pe_str (pa_cons pe_str (pa_cons pe_str pa_nil))))) (by rfl)) (pss_one (ps_set (i := 1) sc_L_fine.nd rfl (Or.inl rfl) (pe_op op_mul (pe_op op_mul (pv 1) (pe_ix ix_tup (pv 2) pe_int (fun _ _ => rfl))) (pe_ifExp (pt_cmpR op_eq (pe_ix ix_tup (pv 2) pe_int (fun _ _ => rfl)) pe_str (nomark _)) (pe_ix ix_tup (pv 2) pe_int (fun _ _ => rfl)) pe_int)))) pss_nil)))
      (pss_one (ps_ret (pv 1))))), ?_⟩
    refine ⟨_, rfl, l, rfl, ⟨_, SqL.of hl⟩, for_list (K := K) (a := l) (xs := xs) (fun i σ H' => Same H H' ∧ ∃ v, σ = [some (.ref l), some (.int ((ws.take i).foldl stepF 1)), v]) ⟨Same.refl H, none, rfl⟩ (fun i σ H' _ h => SqL.of (h.1 _ _ hl)) ?_ ?_⟩
    · rintro i x σ H' hi ⟨hs, v, rfl⟩
      obtain ⟨q, a, rfl, hx, pa⟩ := hw.get hi
      have hok := ha a (List.mem_of_getElem? hx)
      have hq : H' q = _ := hs _ _ pa
      have et : (ws.take (i + 1)).foldl stepF 1 = stepF ((ws.take i).foldl stepF 1) a := by
        rw [List.take_succ, hx, List.foldl_append]
        rfl
      generalize (ws.take i).foldl stepF 1 = m at et ⊢
      rw [et]
      cases a with
      | plus c =>
        refine ⟨_, rfl, q, _, _, _, rfl, rfl, SqT.of hq, rfl, (by show 4 ≤ sizeLine; decide), fun l2 hl2 => ⟨l2, _, rfl, .inl (SqL.of upd_same), rfl, rfl, _, rfl, ifb_neg (by kernel_rfl) ?_⟩⟩
        exact ⟨hs.trans (up hl2), _, rfl⟩
      | told c =>
        refine ⟨_, rfl, q, _, _, _, rfl, rfl, SqT.of hq, rfl, (by show 4 ≤ sizeLine; decide), fun l2 hl2 => ⟨l2, _, rfl, .inl (SqL.of upd_same), rfl, rfl, _, rfl, ifb_neg (by kernel_rfl) ?_⟩⟩
        exact ⟨hs.trans (up hl2), _, rfl⟩
      | whole c =>
        refine ⟨_, rfl, q, _, _, _, rfl, rfl, SqT.of hq, rfl, (by show 4 ≤ sizeLine; decide), fun l2 hl2 => ⟨l2, _, rfl, .inl (SqL.of upd_same), rfl, rfl, _, rfl, ifb_neg (by kernel_rfl) ?_⟩⟩
        exact ⟨hs.trans (up hl2), _, rfl⟩
      | pieces m' c =>
        simp only [Wr.ok] at hok
        refine ⟨_, rfl, q, _, _, _, rfl, rfl, SqT.of hq, rfl, (by show 4 ≤ sizeLine; decide), fun l2 hl2 => ⟨l2, _, rfl, .inl (SqL.of upd_same), rfl, rfl, _, rfl, ifb_pos (by kernel_rfl) ?_⟩⟩
        have hq2 := up (o := .lst [V.str "pieces", V.str "cut", V.str "coded", V.str "filled"]) hl2 _ _ hq
        refine ⟨_, rfl, _, rfl, q, _, _, _, rfl, rfl, SqT.of hq2, rfl, _, _, rfl, rfl, .inr ⟨(show -(2 ^ 64) < m' by omega), (show m' < 2 ^ 64 by omega)⟩, ?_⟩
        refine ⟨_, rfl, q, _, _, _, rfl, rfl, SqT.of hq2, rfl, rfl, _, rfl, ifs_neg (show ("pieces" : Str) ≠ "coded" by decide) ?_⟩
        refine ⟨_, _, rfl, rfl, .inr ⟨by decide, by decide⟩, hs.trans (up hl2), some (.ref q), ?_⟩
        show [some (V.ref l), some (V.int (m * m' * 1)), some (V.ref q)] = _
        rw [Int.mul_one]
        rfl
      | cut m' c =>
        simp only [Wr.ok] at hok
        refine ⟨_, rfl, q, _, _, _, rfl, rfl, SqT.of hq, rfl, (by show 4 ≤ sizeLine; decide), fun l2 hl2 => ⟨l2, _, rfl, .inl (SqL.of upd_same), rfl, rfl, _, rfl, ifb_pos (by kernel_rfl) ?_⟩⟩
        have hq2 := up (o := .lst [V.str "pieces", V.str "cut", V.str "coded", V.str "filled"]) hl2 _ _ hq
        refine ⟨_, rfl, _, rfl, q, _, _, _, rfl, rfl, SqT.of hq2, rfl, _, _, rfl, rfl, .inr ⟨(show -(2 ^ 64) < m' by omega), (show m' < 2 ^ 64 by omega)⟩, ?_⟩
        refine ⟨_, rfl, q, _, _, _, rfl, rfl, SqT.of hq2, rfl, rfl, _, rfl, ifs_neg (show ("cut" : Str) ≠ "coded" by decide) ?_⟩
        refine ⟨_, _, rfl, rfl, .inr ⟨by decide, by decide⟩, hs.trans (up hl2), some (.ref q), ?_⟩
        show [some (V.ref l), some (V.int (m * m' * 1)), some (V.ref q)] = _
        rw [Int.mul_one]
        rfl
      | filled m' =>
        simp only [Wr.ok] at hok
        refine ⟨_, rfl, q, _, _, _, rfl, rfl, SqT.of hq, rfl, (by show 4 ≤ sizeLine; decide), fun l2 hl2 => ⟨l2, _, rfl, .inl (SqL.of upd_same), rfl, rfl, _, rfl, ifb_pos (by kernel_rfl) ?_⟩⟩
        have hq2 := up (o := .lst [V.str "pieces", V.str "cut", V.str "coded", V.str "filled"]) hl2 _ _ hq
        refine ⟨_, rfl, _, rfl, q, _, _, _, rfl, rfl, SqT.of hq2, rfl, _, _, rfl, rfl, .inr ⟨(show -(2 ^ 64) < m' by omega), (show m' < 2 ^ 64 by omega)⟩, ?_⟩
        refine ⟨_, rfl, q, _, _, _, rfl, rfl, SqT.of hq2, rfl, rfl, _, rfl, ifs_neg (show ("filled" : Str) ≠ "coded" by decide) ?_⟩
        refine ⟨_, _, rfl, rfl, .inr ⟨by decide, by decide⟩, hs.trans (up hl2), some (.ref q), ?_⟩
        show [some (V.ref l), some (V.int (m * m' * 1)), some (V.ref q)] = _
        rw [Int.mul_one]
        rfl
      | coded m' c =>
        simp only [Wr.ok] at hok
        refine ⟨_, rfl, q, _, _, _, rfl, rfl, SqT.of hq, rfl, (by show 4 ≤ sizeLine; decide), fun l2 hl2 => ⟨l2, _, rfl, .inl (SqL.of upd_same), rfl, rfl, _, rfl, ifb_pos (by kernel_rfl) ?_⟩⟩
        have hq2 := up (o := .lst [V.str "pieces", V.str "cut", V.str "coded", V.str "filled"]) hl2 _ _ hq
        refine ⟨_, rfl, _, rfl, q, _, _, _, rfl, rfl, SqT.of hq2, rfl, _, _, rfl, rfl, .inr ⟨(show -(2 ^ 64) < m' by omega), (show m' < 2 ^ 64 by omega)⟩, ?_⟩
        refine ⟨_, rfl, q, _, _, _, rfl, rfl, SqT.of hq2, rfl, rfl, _, rfl, ifd_pos rfl ?_⟩
        exact ⟨_, rfl, q, _, _, _, rfl, rfl, SqT.of hq2, rfl, _, _, rfl, rfl, .inr ⟨(show -(2 ^ 64) < c by omega), (show c < 2 ^ 64 by omega)⟩, hs.trans (up hl2), _, rfl⟩
    · rintro σ H' ⟨hs, v, rfl⟩
      rw [hw.len, List.take_length]
      exact ⟨_, rfl, k _ hs⟩
theorem ok_L_made (T : Tx w K mg) : Prom P w K mg base CX0 6 "_law_made" s_L_made ["_law_tag"] (spLMade K) := by
  refine Prom.of T.d_L_made sc_L_made (fun vs H Q E h => ?_) (fun _ _ _ _ _ _ us hl => match us, hl with | [_], _ => rfl) (fun f cdv A outer s H vs Q E hr h => ?_)
  · obtain ⟨p, a, rfl, _⟩ := h
    rfl
  · obtain ⟨p, a, rfl, hp, ha, k⟩ := h
    have hp : H p = _ := hp
    refine ⟨_, (pss_one (ps_ret (pe_ifExp (pt_cmp (pc_eqI (pe_callB call_len_seq (by rfl) T.b_len (by decide +kernel) (pa_cons (pv 0) pa_nil)) pe_int)) (pe_newP (ok_Wrap T) (hr.mono (by decide)) (by rfl) pass0 (pa_cons (pe_ix ix_tup (pv 0) pe_int (fun _ _ => rfl)) (pa_cons (pe_ix ix_tup (pv 0) pe_int (fun _ _ => rfl)) pa_nil))) (pe_newP (ok_Wrap T) (hr.mono (by decide)) (by rfl) pass0 (pa_cons (pe_ix ix_tup (pv 0) pe_int (fun _ _ => rfl)) (pa_cons (pe_ix ix_tup (pv 0) pe_int (fun _ _ => rfl)) (pa_cons (pe_ix ix_tup (pv 0) pe_int (fun _ _ => rfl)) pa_nil))))))), ?_⟩
    refine ⟨_, rfl, p, _, rfl, .inr (SqT.of hp), _, _, rfl, rfl, _, rfl, ?_⟩
    have two : ∀ n m : Int, a.nums = [n, m] → False ∨ True := fun _ _ _ => .inr trivial
    cases a with
    | plus c => exact ifd_pos rfl ⟨_, rfl, p, _, _, _, rfl, rfl, SqT.of hp, rfl, _, rfl, p, _, _, _, rfl, rfl, SqT.of hp, rfl, Wr.plus c, rfl, ha, k⟩
    | told c => exact ifd_pos rfl ⟨_, rfl, p, _, _, _, rfl, rfl, SqT.of hp, rfl, _, rfl, p, _, _, _, rfl, rfl, SqT.of hp, rfl, Wr.told c, rfl, ha, k⟩
    | whole c => exact ifd_pos rfl ⟨_, rfl, p, _, _, _, rfl, rfl, SqT.of hp, rfl, _, rfl, p, _, _, _, rfl, rfl, SqT.of hp, rfl, Wr.whole c, rfl, ha, k⟩
    | filled c => exact ifd_pos rfl ⟨_, rfl, p, _, _, _, rfl, rfl, SqT.of hp, rfl, _, rfl, p, _, _, _, rfl, rfl, SqT.of hp, rfl, Wr.filled c, rfl, ha, k⟩
    | pieces m c => exact ifd_neg (by show ¬ ((3 : Nat) : Int) = 2; decide) ⟨_, rfl, p, _, _, _, rfl, rfl, SqT.of hp, rfl, _, rfl, p, _, _, _, rfl, rfl, SqT.of hp, rfl, _, rfl, p, _, _, _, rfl, rfl, SqT.of hp, rfl, Wr.pieces m c, rfl, ha, k⟩
    | cut m c => exact ifd_neg (by show ¬ ((3 : Nat) : Int) = 2; decide) ⟨_, rfl, p, _, _, _, rfl, rfl, SqT.of hp, rfl, _, rfl, p, _, _, _, rfl, rfl, SqT.of hp, rfl, _, rfl, p, _, _, _, rfl, rfl, SqT.of hp, rfl, Wr.cut m c, rfl, ha, k⟩
    | coded m c => exact ifd_neg (by show ¬ ((3 : Nat) : Int) = 2; decide) ⟨_, rfl, p, _, _, _, rfl, rfl, SqT.of hp, rfl, _, rfl, p, _, _, _, rfl, rfl, SqT.of hp, rfl, _, rfl, p, _, _, _, rfl, rfl, SqT.of hp, rfl, Wr.coded m c, rfl, ha, k⟩
end
def MoveAt (H : Hp) (p : Addr) : Stp → Prop
  | .push a => ∃ q, H p = some (.tup [.str "push", .ref q]) ∧ TagAt H q a
  | .pop => H p = some (.tup [.str "pop"])
  | .bound n => H p = some (.tup [.str "bound", .int n])
theorem MoveAt.same {H H' : Hp} {p : Addr} {s : Stp} (h : MoveAt H p s) (e : Same H H') : MoveAt H' p s := by
  cases s with
  | push a =>
    obtain ⟨q, h1, h2⟩ := h
    exact ⟨q, e _ _ h1, e _ _ h2⟩
  | pop => exact e _ _ h
  | bound n => exact e _ _ h
theorem MoveAt.drew {H H1 : Hp} {p q : Addr} {s : Stp} (h : MoveAt H q s) (d : Drew p H H1) (hp : PurseAt H p) : MoveAt H1 q s := by
  cases s with
  | push a =>
    obtain ⟨q, h1, h2⟩ := h
    exact ⟨q, d.keep hp h1 (fun _ z => by cases z), d.tag hp h2⟩
  | pop => exact d.keep hp h (fun _ z => by cases z)
  | bound n => exact d.keep hp h (fun _ z => by cases z)
theorem MoveAt.put {H : Hp} {l p : Addr} {ys zs : List V} {s : Stp} (h : MoveAt H p s) (hl : H l = some (.lst ys)) : MoveAt (upd H l (.lst zs)) p s := by
  have ne : ∀ {q : Addr} {xs : List V}, H q = some (.tup xs) → (upd H l (.lst zs)) q = some (.tup xs) := fun {q xs} e => by
    rw [upd_ne (fun z => by rw [z, hl] at e; cases e)]
    exact e
  cases s with
  | push a =>
    obtain ⟨q, h1, h2⟩ := h
    exact ⟨q, ne h1, ne h2⟩
  | pop => exact ne h
  | bound n => exact ne h
inductive MovesAt (H : Hp) : List V → List Stp → Prop where
  | nil : MovesAt H [] []
  | cons {p : Addr} {s : Stp} {xs : List V} {ss : List Stp} (h : MoveAt H p s) (r : MovesAt H xs ss) : MovesAt H (.ref p :: xs) (s :: ss)
theorem MovesAt.len {H : Hp} {xs : List V} {ss : List Stp} (h : MovesAt H xs ss) : xs.length = ss.length := by
  induction h with
  | nil => rfl
  | cons _ _ ih => exact congrArg (· + 1) ih
theorem MovesAt.get {H : Hp} {xs : List V} {ss : List Stp} (h : MovesAt H xs ss) : ∀ {i : Nat} {x : V}, xs[i]? = some x → ∃ (p : Addr) (s : Stp), x = .ref p ∧ ss[i]? = some s ∧ MoveAt H p s := by
  induction h with
  | nil =>
    intro i x e
    simp at e
  | cons h _ ih =>
    intro i x e
    cases i with
    | zero =>
      simp at e
      exact ⟨_, _, e.symm, rfl, h⟩
    | succ i => exact ih (by simpa using e)
theorem MovesAt.at_ {H : Hp} {xs : List V} {ss : List Stp} (h : MovesAt H xs ss) : ∀ {i : Nat} {s : Stp}, ss[i]? = some s → ∃ p, xs[i]? = some (.ref p) ∧ MoveAt H p s := by
  induction h with
  | nil => intro i s e; simp at e
  | cons h _ ih =>
    intro i s e
    cases i with
    | zero =>
      simp at e
      exact ⟨_, rfl, by rw [← e]; exact h⟩
    | succ i => exact ih (by simpa using e)
theorem MovesAt.same {H H' : Hp} {xs : List V} {ss : List Stp} (h : MovesAt H xs ss) (e : Same H H') : MovesAt H' xs ss := by
  induction h with
  | nil => exact .nil
  | cons h _ ih => exact .cons (h.same e) ih
theorem MovesAt.drew {H H1 : Hp} {p : Addr} {xs : List V} {ss : List Stp} (h : MovesAt H xs ss) (d : Drew p H H1) (hp : PurseAt H p) : MovesAt H1 xs ss := by
  induction h with
  | nil => exact .nil
  | cons h _ ih => exact .cons (h.drew d hp) ih
theorem MovesAt.put {H : Hp} {l : Addr} {xs ys zs : List V} {ss : List Stp} (h : MovesAt H xs ss) (hl : H l = some (.lst ys)) : MovesAt (upd H l (.lst zs)) xs ss := by
  induction h with
  | nil => exact .nil
  | cons h _ ih => exact .cons (h.put hl) ih
theorem MovesAt.snoc {H : Hp} {xs : List V} {ss : List Stp} {p : Addr} {s : Stp} (h : MovesAt H xs ss) (hx : MoveAt H p s) : MovesAt H (xs ++ [.ref p]) (ss ++ [s]) := by
  induction h with
  | nil => exact .cons hx .nil
  | cons h _ ih => exact .cons h ih
theorem MovesAt.take {H : Hp} {xs : List V} {ss : List Stp} (h : MovesAt H xs ss) : ∀ i : Nat, MovesAt H (xs.take i) (ss.take i) := by
  induction h with
  | nil => intro i; simp; exact .nil
  | cons h _ ih =>
    intro i
    cases i with
    | zero => exact .nil
    | succ i => exact .cons h (ih i)
theorem Drew.put {p l : Addr} {H H' : Hp} {o : HO} (a : Drew p H H') (h : H l = none) (n : l ≠ p) : Drew p H (upd H' l o) := by
  refine ⟨?_, fun b u nb e => ?_⟩
  · obtain ⟨m, d, c, e, r⟩ := a.at_
    exact ⟨m, d, c, by rw [upd_ne (Ne.symm n)]; exact e, r⟩
  · rw [upd_ne (ne_of_none e h)]
    exact a.kp b u nb e
def spLEdge : Sp := fun vs H Q _ => ∃ (p l : Addr) (xs : List V) (ws : List Wr) (b m : Int), vs = [.ref p, .ref l, .int b, .int m] ∧ PurseAt H p ∧ l ≠ p ∧ H l = some (.lst xs) ∧ TagsAt H xs ws ∧ StkOk b ws ∧ 0 ≤ m ∧ ∀ r H', 0 ≤ r → r ≤ 10 ^ 60 - 1 → Drew p H H' → Q (.int r) H'
def spLMove : Sp := fun vs H Q _ => ∃ (p l : Addr) (xs : List V) (ws : List Wr) (b m : Int), vs = [.ref p, .ref l, .int b, .int m] ∧ PurseAt H p ∧ l ≠ p ∧ H l = some (.lst xs) ∧ TagsAt H xs ws ∧ StkOk b ws ∧ 0 ≤ m ∧ ∀ q s H', stepOk b ws s → H q = none → Drew p H H' → MoveAt H' q s → Q (.ref q) H'
def spLPut : Sp := fun vs H Q _ => ∃ (l m : Addr) (xs : List V) (ws : List Wr) (s : Stp), vs = [.ref l, .ref m] ∧ H l = some (.lst xs) ∧ TagsAt H xs ws ∧ ws.length ≤ 6 ∧ MoveAt H m s ∧ (s = .pop → ws ≠ []) ∧ ∀ xs', TagsAt H xs' (stepOn ws s) → Q .non (upd H l (.lst xs'))
def spLMoves : Sp := fun vs H Q _ => ∃ (p : Addr) (n b m : Int), vs = [.ref p, .int n, .int b, .int m] ∧ PurseAt H p ∧ 0 ≤ n ∧ n ≤ 100 ∧ 2 ≤ b ∧ b ≤ 256 ∧ 0 ≤ m ∧ ∀ l xs ss H', RoadB b ss → (ss.length : Int) = n → H l = none → Drew p H H' → H' l = some (.lst xs) → MovesAt H' xs ss → Q (.ref l) H'
def spLOn : Sp := fun vs H Q _ => ∃ (l : Addr) (xs : List V) (ss : List Stp) (b : Int), vs = [.ref l] ∧ H l = some (.lst xs) ∧ MovesAt H xs ss ∧ RoadB b ss ∧ 2 ≤ b ∧ b ≤ 256 ∧ ∀ q ys H', H q = none → Same H H' → H' q = some (.lst ys) → TagsAt H' ys (onL ss) → Q (.ref q) H'
theorem upd_id {H : Hp} {l : Addr} {o : HO} (h : H l = some o) : upd H l o = H := by
  funext b
  by_cases z : b = l
  · rw [z, upd_same, h]
  · rw [upd_ne z]
theorem wrap_room {b : Int} {ws : List Wr} {a : Wr} (so : StkOk b ws) (hl : ws.length < 6) (ha : a.ok) (hu : a.use ≤ 120 / fineL ws) : StkOk b (ws ++ [a]) := by
  have fp : 1 ≤ fineL ws := fine_pos (ws := ws) so.ok (p := 1) (by decide)
  refine ⟨so.b0, so.b1, fun z hz => ?_, by simp; omega, ?_⟩
  · rcases List.mem_append.mp hz with y | y
    · exact so.ok z y
    · have : z = a := by simpa using y
      rw [this]
      exact ha
  · rw [fine_app]
    have := Int.mul_le_of_le_ediv (show 0 < fineL ws by omega) hu
    rw [Int.mul_comm]
    exact this
section
variable {P : Program} {w : World} {K : PySem.W.Frag} {mg : Str → Option Value} {base : Heap}
theorem ok_L_wrap (T : Tx w K mg) : Prom P w K mg base CX0 3 "_law_wrap" s_L_wrap ["_law_pool_here", "_law_room"] spLTag := by
  refine Prom.of T.d_L_wrap sc_L_wrap (fun vs H Q E h => ?_) (fun _ _ _ _ _ _ us hl => match us, hl with | [_, _], _ => rfl) (fun f cdv A outer s H vs Q E hr h => ?_)
  · obtain ⟨p, r, rfl, _⟩ := h
    rfl
  · obtain ⟨p, r, rfl, hp, r0, r1, k⟩ := h
    refine ⟨_, (pss_cons (ps_par (i := 2) (j := 3) (by rfl) sc_L_wrap.nd rfl rfl (by decide) rfl rfl (pa_cons (pe_callP (ok_L_draw T) (hr.mono (by decide)) (by rfl) pass0 (pa_cons (pv 0) (pa_cons pe_int pa_nil))) (pa_cons (pe_callB (call_min2 rfl) (by rfl) T.b_min (by decide +kernel) (pa_cons pe_int (pa_cons (pv 1) pa_nil))) pa_nil)) (by rfl))
      (pss_cons (ps_if (pt_cmp (pc_lt (pv 2) pe_int)) (pss_one (ps_ret (pe_tup (pa_cons (pe_ix ix_list (pe_lst (pa_cons pe_str (pa_cons pe_str (pa_cons pe_str (pa_cons pe_str pa_nil))))) (pv 2) (fun _ _ => rfl)) (pa_cons (pe_callP (ok_L_constant T) (hr.mono (by decide)) (by rfl) pass0 (pa_cons (pv 0) (pa_cons (pe_ifExp (pt_cmp (pc_lt (pv 2) pe_int)) pe_int pe_int) pa_nil))) pa_nil))))) pss_nil)
      (pss_cons (ps_if (pt_cmp (pc_lt (pv 2) pe_int)) (pss_cons (ps_set (i := 4) sc_L_wrap.nd rfl (Or.inl rfl) (pe_ifExp (pt_cmp (pc_eqI (pe_callP (ok_L_draw T) (hr.mono (by decide)) (by rfl) pass0 (pa_cons (pv 0) (pa_cons pe_int pa_nil))) pe_int)) (pv 3) (pe_op op_add pe_int (pe_callP (ok_L_draw T) (hr.mono (by decide)) (by rfl) pass0 (pa_cons (pv 0) (pa_cons (pv 3) pa_nil))))))
      (pss_cons (ps_if (pt_cmp (pc_eqI (pv 2) pe_int)) (pss_one (ps_ret (pe_tup (pa_cons pe_str (pa_cons (pv 4) pa_nil))))) pss_nil)
      (pss_one (ps_ret (pe_tup (pa_cons (pe_ix ix_list (pe_lst (pa_cons pe_str (pa_cons pe_str pa_nil))) (pe_op op_sub (pv 2) pe_int) (fun _ _ => rfl)) (pa_cons (pv 4) (pa_cons (pe_callP (ok_L_constant T) (hr.mono (by decide)) (by rfl) pass0 (pa_cons (pv 0) (pa_cons pe_int pa_nil))) pa_nil)))))))) pss_nil)
      (pss_cons (ps_set (i := 4) sc_L_wrap.nd rfl (Or.inl rfl) (pe_op op_add pe_int (pe_callP (ok_L_draw T) (hr.mono (by decide)) (by rfl) pass0 (pa_cons (pv 0) (pa_cons (pe_callB call_len_seq (by rfl) T.b_len (by decide +kernel) (pa_cons (pe_lc (own := [("_law_k", 5)]) (g := (gName 5)) (by rfl) sc_L_wrap.nd (pi_range2A (by rfl) T.b_range (pa_cons pe_int (pa_cons pe_int pa_nil))) (blkOk_by (own := [("_law_k", 5)]) (N := ["_law_pool_here", "_law_room", "_law_way", "_law_most", "_law_many", "_law_k"]) (sc := defScope s_L_wrap) (by decide +kernel)) (fun _ _ _ _ _ => (pg_name (i := 5) sc_L_wrap.nd rfl (Or.inl rfl))) (fun _ _ _ _ _ => pts_one (pt_cmp (pc_le (pe_op op_mul (pv 5) (pv 5)) (pv 1)))) (fun _ _ _ _ _ => (pv 5))) pa_nil)) pa_nil)))))
      (pss_one (ps_ret (pe_tup (pa_cons pe_str (pa_cons (pv 4) (pa_cons (pe_op op_add (pv 4) (pe_callP (ok_L_draw T) (hr.mono (by decide)) (by rfl) pass0 (pa_cons (pv 0) (pa_cons (pe_op op_add (pe_op op_sub (pe_op op_fdiv (pv 1) (pv 4)) (pv 4)) pe_int) pa_nil)))) pa_nil)))))))))), ?_⟩
    refine ⟨_, rfl, p, _, rfl, hp, by decide, by decide, fun y H1 y0 y1 d1 => ⟨_, rfl, _, _, rfl, _, _, rfl, ?_⟩⟩
    have mo : ∀ v : Int, v = (if r < 60 then r else 60) → 1 ≤ v ∧ v ≤ 60 ∧ v ≤ r := fun v hv => by
      rw [hv]
      split <;> omega
    generalize hv : (if r < 60 then r else 60) = v
    obtain ⟨v0, v1, v2⟩ := mo v hv.symm
    refine ⟨_, rfl, _, _, rfl, rfl, _, rfl, ifd (fun c => ?_) (fun c => ?_)⟩
    · have c : y < 4 := c
      obtain ⟨kd, mkW, hm, hy⟩ : ∃ (kd : Str) (mkW : Int → Wr), (∀ c, (mkW c).kind = kd ∧ (mkW c).nums = [c] ∧ (mkW c).use = 1 ∧ (0 ≤ c ∧ c ≤ 1000 → (mkW c).ok)) ∧ [V.str "plus", V.str "told", V.str "whole", V.str "told"][y.toNat]? = some (V.str kd) := by
        have y4 : y = 0 ∨ y = 1 ∨ y = 2 ∨ y = 3 := by omega
        rcases y4 with rfl | rfl | rfl | rfl
        · exact ⟨"plus", Wr.plus, fun c => ⟨rfl, rfl, rfl, id⟩, rfl⟩
        · exact ⟨"told", Wr.told, fun c => ⟨rfl, rfl, rfl, id⟩, rfl⟩
        · exact ⟨"whole", Wr.whole, fun c => ⟨rfl, rfl, rfl, id⟩, rfl⟩
        · exact ⟨"told", Wr.told, fun c => ⟨rfl, rfl, rfl, id⟩, rfl⟩
      have fin : ∀ (H2 : Hp), Drew p H H2 → ∀ c, 0 ≤ c → c ≤ 1000 → ∀ t, H2 t = none → Q (.ref t) (upd H2 t (.tup [.str kd, .int c])) := fun H2 d c c0 c1 t ht => by
        obtain ⟨e1, e2, e3, e4⟩ := hm c
        refine k t (mkW c) _ (e4 ⟨c0, c1⟩) (by omega) (new_before d hp ht) (d.new ht) ?_
        show (upd H2 t _) t = some (.tup (.str (mkW c).kind :: (mkW c).nums.map V.int))
        rw [upd_same, e1, e2]
        rfl
      refine ⟨(by show 4 ≤ sizeLine; decide), fun l hl => ?_⟩
      have d2 := d1.new (o := .lst [V.str "plus", V.str "told", V.str "whole", V.str "told"]) hl
      refine ⟨_, rfl, l, _, _, _, rfl, rfl, SqL.of upd_same, at_of (show y = ((y.toNat : Nat) : Int) by omega) hy, ?_⟩
      refine ⟨_, rfl, _, rfl, _, _, rfl, rfl, _, rfl, ifd (fun c2 => ?_) (fun c2 => ?_)⟩
      · exact ⟨p, _, rfl, d2.at_, by decide, by decide, fun z H3 z0 z1 d3 => ⟨(by show 2 ≤ sizeLine; decide), fun t ht => fin _ (d2.trans d3) z z0 z1 t ht⟩⟩
      · exact ⟨p, _, rfl, d2.at_, by decide, by decide, fun z H3 z0 z1 d3 => ⟨(by show 2 ≤ sizeLine; decide), fun t ht => fin _ (d2.trans d3) z z0 (by omega) t ht⟩⟩
    have c : ¬ y < 4 := c
    refine ⟨_, rfl, _, _, rfl, rfl, _, rfl, ifd (fun c2 => ?_) (fun c2 => ?_)⟩
    · have c2 : y < 7 := c2
      refine ⟨_, rfl, p, _, rfl, d1.at_, by decide, by decide, fun u H2 u0 u1 d2 => ?_⟩
      have d2 := d1.trans d2
      refine ⟨_, _, rfl, rfl, _, rfl, ifd (fun c3 => ?_) (fun c3 => ?_)⟩
      · refine ⟨_, rfl, ?_⟩
        have m0 := v0
        have m1 := (Int.le_refl v)
        refine ⟨_, rfl, _, _, rfl, rfl, _, rfl, ifd (fun c4 => ?_) (fun c4 => ?_)⟩
        · exact ⟨_, rfl, (by show 2 ≤ sizeLine; decide), fun t ht => k t (Wr.filled v) _ ⟨by omega, by omega⟩ (show v ≤ r by omega) (new_before d2 hp ht) (d2.new ht) upd_same⟩
        · have c4 : ¬ y = 6 := c4
          obtain ⟨kd, mkW, hm, hy⟩ : ∃ (kd : Str) (mkW : Int → Int → Wr), (∀ m c, (mkW m c).kind = kd ∧ (mkW m c).nums = [m, c] ∧ (mkW m c).use = m ∧ (1 ≤ m ∧ m ≤ 60 ∧ 0 ≤ c ∧ c ≤ 60 → (mkW m c).ok)) ∧ [V.str "pieces", V.str "cut"][(y - 4).toNat]? = some (V.str kd) := by
            have y4 : y = 4 ∨ y = 5 := by omega
            rcases y4 with rfl | rfl
            · exact ⟨"pieces", Wr.pieces, fun m c => ⟨rfl, rfl, rfl, id⟩, rfl⟩
            · exact ⟨"cut", Wr.cut, fun m c => ⟨rfl, rfl, rfl, id⟩, rfl⟩
          refine ⟨(by show 2 ≤ sizeLine; decide), fun l hl => ?_⟩
          have d5 := d2.new (o := .lst [V.str "pieces", V.str "cut"]) hl
          refine ⟨_, rfl, _, _, rfl, rfl, l, _, _, _, rfl, rfl, SqL.of upd_same, at_of (show y - 4 = (((y - 4).toNat : Nat) : Int) by omega) hy, _, rfl, _, rfl, ?_⟩
          refine ⟨p, _, rfl, d5.at_, by decide, by decide, fun z H6 z0 z1 d6 => ⟨(by show 3 ≤ sizeLine; decide), fun t ht => ?_⟩⟩
          have d6 := d5.trans d6
          obtain ⟨e1, e2, e3, e4⟩ := hm v z
          refine k t (mkW v z) _ (e4 ⟨by omega, by omega, z0, z1⟩) (by omega) (new_before d6 hp ht) (d6.new ht) ?_
          show (upd H6 t _) t = some (.tup (.str (mkW v z).kind :: (mkW v z).nums.map V.int))
          rw [upd_same, e1, e2]
          rfl
      · refine ⟨_, rfl, _, rfl, p, v, rfl, d2.at_, by omega, by omega, fun o H3 o0 o1 d3 => ⟨_, _, rfl, rfl, ?_⟩⟩
        have d3 := d2.trans d3
        have m0 := (show 1 ≤ 1 + o by omega)
        have m1 := (show 1 + o ≤ v by omega)
        refine ⟨_, rfl, _, _, rfl, rfl, _, rfl, ifd (fun c4 => ?_) (fun c4 => ?_)⟩
        · exact ⟨_, rfl, (by show 2 ≤ sizeLine; decide), fun t ht => k t (Wr.filled (1 + o)) _ ⟨by omega, by omega⟩ (show (1 + o) ≤ r by omega) (new_before d3 hp ht) (d3.new ht) upd_same⟩
        · have c4 : ¬ y = 6 := c4
          obtain ⟨kd, mkW, hm, hy⟩ : ∃ (kd : Str) (mkW : Int → Int → Wr), (∀ m c, (mkW m c).kind = kd ∧ (mkW m c).nums = [m, c] ∧ (mkW m c).use = m ∧ (1 ≤ m ∧ m ≤ 60 ∧ 0 ≤ c ∧ c ≤ 60 → (mkW m c).ok)) ∧ [V.str "pieces", V.str "cut"][(y - 4).toNat]? = some (V.str kd) := by
            have y4 : y = 4 ∨ y = 5 := by omega
            rcases y4 with rfl | rfl
            · exact ⟨"pieces", Wr.pieces, fun m c => ⟨rfl, rfl, rfl, id⟩, rfl⟩
            · exact ⟨"cut", Wr.cut, fun m c => ⟨rfl, rfl, rfl, id⟩, rfl⟩
          refine ⟨(by show 2 ≤ sizeLine; decide), fun l hl => ?_⟩
          have d5 := d3.new (o := .lst [V.str "pieces", V.str "cut"]) hl
          refine ⟨_, rfl, _, _, rfl, rfl, l, _, _, _, rfl, rfl, SqL.of upd_same, at_of (show y - 4 = (((y - 4).toNat : Nat) : Int) by omega) hy, _, rfl, _, rfl, ?_⟩
          refine ⟨p, _, rfl, d5.at_, by decide, by decide, fun z H6 z0 z1 d6 => ⟨(by show 3 ≤ sizeLine; decide), fun t ht => ?_⟩⟩
          have d6 := d5.trans d6
          obtain ⟨e1, e2, e3, e4⟩ := hm (1 + o) z
          refine k t (mkW (1 + o) z) _ (e4 ⟨by omega, by omega, z0, z1⟩) (by omega) (new_before d6 hp ht) (d6.new ht) ?_
          show (upd H6 t _) t = some (.tup (.str (mkW (1 + o) z).kind :: (mkW (1 + o) z).nums.map V.int))
          rw [upd_same, e1, e2]
          rfl
    · refine ⟨_, rfl, _, _, rfl, fun D hD => ?_⟩
      refine lc_range (lo := 1) (n := ((11 : Int) - 1).toNat) (Pv := fun j H' => Same H1 H' ∧ H' D = some (.lst ((sqs r j).map V.int))) ⟨up hD, upd_same⟩ ?_ ?_
      · rintro j H' hj ⟨hs, hy⟩
        have hj : j < 10 := hj
        have sl := (sqs_len r0 j).1
        refine ⟨rfl, _, rfl, _, rfl, _, _, rfl, rfl, .inl ⟨by omega, by omega⟩, _, rfl, _, _, rfl, rfl, _, rfl, ifd (fun z => ?_) (fun z => ?_)⟩
        · have z : (1 + (j : Int)) * (1 + (j : Int)) ≤ r := z
          refine ⟨_, rfl, _, hy, ?_, fun y o e => ?_, ?_⟩
          · rw [List.length_map, sizeLine_eq]
            omega
          · rw [upd_ne (ne_of_none e hD)]
            exact hs _ _ e
          · rw [upd_same, sqs_succ, if_pos z, List.map_append]
            rfl
        · have z : ¬ (1 + (j : Int)) * (1 + (j : Int)) ≤ r := z
          refine ⟨hs, ?_⟩
          rw [hy, sqs_succ, if_neg z, List.append_nil]
      · rintro H3 ⟨hs, hy⟩
        have d3 := d1.same hs
        have hy : H3 D = some (.lst ((sqs r 10).map V.int)) := hy
        obtain ⟨s1, s2, s3⟩ := sqs_len r0 10
        have s2 := s2 (by decide)
        refine ⟨D, _, rfl, .inl (SqL.of hy), p, _, rfl, d3.at_, by rw [List.length_map]; omega, by rw [List.length_map]; omega, fun o H4 o0 o1 d4 => ?_⟩
        rw [List.length_map] at o1
        have d4 := d3.trans d4
        refine ⟨_, _, rfl, rfl, ?_⟩
        have sq := s3 (1 + o) (by omega) (by omega)
        have q1 : 1 + o ≤ r / (1 + o) := Int.le_ediv_of_mul_le (by omega) sq
        have q2 : r / (1 + o) ≤ r := Int.ediv_le_self _ (by omega)
        refine ⟨_, rfl, _, rfl, _, rfl, _, rfl, _, rfl, _, _, rfl, rfl, ⟨(show 0 < 1 + o by omega), (show 1 + o < 1073741824 by omega)⟩, _, rfl, _, _, rfl, rfl, _, _, rfl, rfl, ?_⟩
        refine ⟨p, _, rfl, d4.at_, by omega, by omega, fun u H5 u0 u1 d5 => ?_⟩
        have d5 := d4.trans d5
        refine ⟨_, _, rfl, rfl, (by show 3 ≤ sizeLine; decide), fun t ht => ?_⟩
        have le2 : (1 + o + u) * (1 + o) ≤ r := Int.mul_le_of_le_ediv (by omega) (show 1 + o + u ≤ r / (1 + o) by omega)
        rw [Int.mul_comm] at le2
        exact k t (Wr.coded (1 + o) (1 + o + u)) _ ⟨by omega, by omega, by omega, by omega⟩ le2 (new_before d5 hp ht) (d5.new ht) upd_same
end
section
variable {P : Program} {w : World} {K : PySem.W.Frag} {mg : Str → Option Value} {base : Heap}
theorem ok_L_edge (T : Tx w K mg) : Prom P w K mg base CX0 4 "_law_edge" s_L_edge ["_law_pool_here", "_law_on_here", "_law_b", "_law_middle"] spLEdge := by
  refine Prom.of T.d_L_edge sc_L_edge (fun vs H Q E h => ?_) (fun _ _ _ _ _ _ us hl => match us, hl with | [_, _, _, _], _ => rfl) (fun f cdv A outer s H vs Q E hr h => ?_)
  · obtain ⟨p, l, xs, ws, b, m, rfl, _⟩ := h
    rfl
  · obtain ⟨p, l, xs, ws, b, m, rfl, hp, nlp, hl, hw, so, m0, k⟩ := h
    refine ⟨_, (pss_cons (ps_set (i := 4) sc_L_edge.nd rfl (Or.inl rfl) (pe_callP (ok_L_draw T) (hr.mono (by decide)) (by rfl) pass0 (pa_cons (pv 0) (pa_cons pe_int pa_nil))))
      (pss_cons (ps_if (pt_cmp (pc_eqI (pv 4) pe_int)) (pss_one (ps_ret (pe_callP (ok_L_draw T) (hr.mono (by decide)) (by rfl) pass0 (pa_cons (pv 0) (pa_cons pe_int pa_nil))))) pss_nil)
      (pss_cons (ps_if (pt_cmp (pc_eqI (pv 4) pe_int)) (pss_one (ps_ret (pe_callP (ok_L_length T) (hr.mono (by decide)) (by rfl) pass0 (pa_cons (pv 0) (pa_cons (pv 2) pa_nil))))) pss_nil)
      (pss_one (ps_ret (pe_callB (call_min2 rfl) (by rfl) T.b_min (by decide +kernel) (pa_cons (pe_op op_sub (pe_op op_pow pe_int pe_int) pe_int) (pa_cons (pe_callB (call_max2 rfl) (by rfl) T.b_max (by decide +kernel) (pa_cons pe_int (pa_cons (pe_op op_sub (pe_op op_add (pe_callP (ok_L_long T) (hr.mono (by decide)) (by rfl) pass0 (pa_cons (pv 1) (pa_cons (pv 3) (pa_cons (pv 2) pa_nil)))) (pe_callP (ok_L_draw T) (hr.mono (by decide)) (by rfl) pass0 (pa_cons (pv 0) (pa_cons pe_int pa_nil)))) pe_int) pa_nil))) pa_nil)))))))), ?_⟩
    refine ⟨_, rfl, p, _, rfl, hp, by decide, by decide, fun r H1 r0 r1 d1 => ?_⟩
    have hl1 := d1.kp _ _ nlp hl
    have hw1 := d1.tags hp hw
    refine ⟨_, rfl, _, _, rfl, rfl, _, rfl, ifd (fun c => ?_) (fun c => ?_)⟩
    · exact ⟨_, rfl, p, _, rfl, d1.at_, by decide, by decide, fun z H2 z0 z1 d2 => k _ _ z0 (Int.le_trans (show z ≤ 60 by omega) (by decide)) (d1.trans d2)⟩
    refine ⟨_, rfl, _, _, rfl, rfl, _, rfl, ifd (fun c => ?_) (fun c => ?_)⟩
    · exact ⟨_, rfl, _, rfl, p, b, rfl, d1.at_, so.b0, so.b1, fun z H2 z0 z1 d2 => k _ _ z0 z1 (d1.trans d2)⟩
    refine ⟨_, _, rfl, rfl, ⟨by decide, by decide, by decide⟩, _, _, rfl, rfl, _, rfl, _, rfl, _, rfl, l, xs, ws, m, b, rfl, hl1, hw1, so.ok, so.b0, so.b1, m0, fun H2 s2 => ?_⟩
    have d2 := d1.same s2
    refine ⟨_, rfl, p, _, rfl, d2.at_, by decide, by decide, fun z H3 z0 z1 d3 => ⟨_, _, rfl, rfl, _, _, rfl, rfl, _, _, rfl, _, _, rfl, ?_⟩⟩
    generalize grS b ws m + z - 5 = x
    have e : (10 : Int) ^ (60 : Int).toNat = 10 ^ 60 := rfl
    rw [e]
    refine k _ _ ?_ ?_ (d2.trans d3)
    · split <;> split <;> omega
    · split <;> split <;> omega
theorem ok_L_move (T : Tx w K mg) : Prom P w K mg base CX0 5 "_law_move" s_L_move ["_law_pool_here", "_law_on_here", "_law_b", "_law_middle"] spLMove := by
  refine Prom.of T.d_L_move sc_L_move (fun vs H Q E h => ?_) (fun _ _ _ _ _ _ us hl => match us, hl with | [_, _, _, _], _ => rfl) (fun f cdv A outer s H vs Q E hr h => ?_)
  · obtain ⟨p, l, xs, ws, b, m, rfl, _⟩ := h
    rfl
  · obtain ⟨p, l, xs, ws, b, m, rfl, hp, nlp, hl, hw, so, m0, k⟩ := h
    refine ⟨_, (pss_cons (ps_set (i := 4) sc_L_move.nd rfl (Or.inl rfl) (pe_callP (ok_L_draw T) (hr.mono (by decide)) (by rfl) pass0 (pa_cons (pv 0) (pa_cons pe_int pa_nil))))
      (pss_cons (ps_if (PW.pt (pw_and (pt_cmp (pc_lt (pv 4) pe_int)) (pw_and1 (pt_cmp (pc_lt (pe_callB call_len_seq (by rfl) T.b_len (by decide +kernel) (pa_cons (pv 1) pa_nil)) pe_int))))) (pss_one (ps_ret (pe_tup (pa_cons pe_str (pa_cons (pe_callP (ok_L_wrap T) (hr.mono (by decide)) (by rfl) pass0 (pa_cons (pv 0) (pa_cons (pe_op op_fdiv pe_int (pe_callP (ok_L_fine T) (hr.mono (by decide)) (by rfl) pass0 (pa_cons (pv 1) pa_nil))) pa_nil))) pa_nil))))) pss_nil)
      (pss_one (ps_ret (pe_ifExp (PW.pt (pw_and (pt_cmp (pc_eqI (pv 4) pe_int)) (pw_and1 (pt_cmpR (op_neD hr.units) (pv 1) (pe_lst pa_nil) (nomark _))))) (pe_tup (pa_cons pe_str pa_nil)) (pe_tup (pa_cons pe_str (pa_cons (pe_callP (ok_L_edge T) (hr.mono (by decide)) (by rfl) pass0 (pa_cons (pv 0) (pa_cons (pv 1) (pa_cons (pv 2) (pa_cons (pv 3) pa_nil))))) pa_nil)))))))), ?_⟩
    refine ⟨_, rfl, p, _, rfl, hp, by decide, by decide, fun r H1 r0 r1 d1 => ?_⟩
    have hl1 := d1.kp _ _ nlp hl
    have hw1 := d1.tags hp hw
    have hlx := hw.len
    have fp : 1 ≤ fineL ws := fine_pos (ws := ws) so.ok (p := 1) (by decide)
    have f2 := so.fine
    refine ⟨_, rfl, _, _, rfl, rfl, _, rfl, ?_⟩
    refine ifd (fun c1 => ?_) (fun c1 => iteF ?_)
    · refine ⟨_, rfl, l, xs, rfl, .inl (SqL.of hl1), _, _, rfl, rfl, _, rfl, ifd (fun c2 => ?_) (fun c2 => ?_)⟩
      · have c2 : (xs.length : Int) < 6 := c2
        refine ⟨_, rfl, _, rfl, l, xs, ws, rfl, hl1, hw1, so.ok, fun H2 s2 => ⟨_, _, rfl, rfl, ⟨by omega, by omega⟩, ?_⟩⟩
        have d2 := d1.same s2
        have q1 : 1 ≤ 120 / fineL ws := Int.le_ediv_of_mul_le (by omega) (by omega)
        have q2 : 120 / fineL ws ≤ 120 := Int.ediv_le_self _ (by decide)
        refine ⟨p, _, rfl, d2.at_, q1, q2, fun q a H3 ha hu nq d3 ta => ⟨(by show 2 ≤ sizeLine; decide), fun t ht => ?_⟩⟩
        have d3 := d2.trans d3
        exact k t (.push a) _ (wrap_room so (by omega) ha hu) (new_before d3 hp ht) (d3.new ht) ⟨q, upd_same, up ht _ _ ta⟩
      · refine ⟨_, rfl, _, _, rfl, rfl, _, rfl, ifd (fun c3 => ?_) (fun c3 => iteF ?_)⟩
        · refine ⟨_, rfl, Nat.zero_le _, fun e he => ?_⟩
          have s2 := up (o := .lst []) he
          refine ⟨_, _, .lst (SqL.of (s2 _ _ hl1)) (hw1.same s2).dp, .lst (SqL.of upd_same) .nil, (tags_shp ws).shaped, rfl, _, rfl, ?_⟩
          have d2 := d1.same s2
          have hl2 := s2 _ _ hl1
          have hw2 := hw1.same s2
          generalize upd H1 e (.lst []) = H2 at s2 d2 hl2 hw2 ⊢
          cases ws with
          | nil =>
            refine ifb_neg rfl ?_
            refine ⟨_, rfl, _, rfl, _, rfl, _, rfl, p, l, xs, _, b, m, rfl, d2.at_, nlp, hl2, hw2, so, m0, fun z H3 z0 z1 d3 => ⟨(by show 2 ≤ sizeLine; decide), fun t ht => ?_⟩⟩
            have d3 := d2.trans d3
            exact k t (.bound z) _ ⟨z0, z1⟩ (new_before d3 hp ht) (d3.new ht) upd_same
          | cons a0 wr =>
            refine ifb_pos rfl ?_
            exact ⟨(by show 1 ≤ sizeLine; decide), fun t ht => k t .pop _ (fun z => by cases z) (new_before d2 hp ht) (d2.new ht) upd_same⟩
        · refine ⟨_, rfl, _, rfl, _, rfl, _, rfl, p, l, xs, _, b, m, rfl, d1.at_, nlp, hl1, hw1, so, m0, fun z H3 z0 z1 d3 => ⟨(by show 2 ≤ sizeLine; decide), fun t ht => ?_⟩⟩
          have d3 := d1.trans d3
          exact k t (.bound z) _ ⟨z0, z1⟩ (new_before d3 hp ht) (d3.new ht) upd_same
    · refine ⟨_, rfl, _, _, rfl, rfl, _, rfl, ifd (fun c3 => ?_) (fun c3 => iteF ?_)⟩
      · refine ⟨_, rfl, Nat.zero_le _, fun e he => ?_⟩
        have s2 := up (o := .lst []) he
        refine ⟨_, _, .lst (SqL.of (s2 _ _ hl1)) (hw1.same s2).dp, .lst (SqL.of upd_same) .nil, (tags_shp ws).shaped, rfl, _, rfl, ?_⟩
        have d2 := d1.same s2
        have hl2 := s2 _ _ hl1
        have hw2 := hw1.same s2
        generalize upd H1 e (.lst []) = H2 at s2 d2 hl2 hw2 ⊢
        cases ws with
        | nil =>
          refine ifb_neg rfl ?_
          refine ⟨_, rfl, _, rfl, _, rfl, _, rfl, p, l, xs, _, b, m, rfl, d2.at_, nlp, hl2, hw2, so, m0, fun z H3 z0 z1 d3 => ⟨(by show 2 ≤ sizeLine; decide), fun t ht => ?_⟩⟩
          have d3 := d2.trans d3
          exact k t (.bound z) _ ⟨z0, z1⟩ (new_before d3 hp ht) (d3.new ht) upd_same
        | cons a0 wr =>
          refine ifb_pos rfl ?_
          exact ⟨(by show 1 ≤ sizeLine; decide), fun t ht => k t .pop _ (fun z => by cases z) (new_before d2 hp ht) (d2.new ht) upd_same⟩
      · refine ⟨_, rfl, _, rfl, _, rfl, _, rfl, p, l, xs, _, b, m, rfl, d1.at_, nlp, hl1, hw1, so, m0, fun z H3 z0 z1 d3 => ⟨(by show 2 ≤ sizeLine; decide), fun t ht => ?_⟩⟩
        have d3 := d1.trans d3
        exact k t (.bound z) _ ⟨z0, z1⟩ (new_before d3 hp ht) (d3.new ht) upd_same
theorem ok_L_put (T : Tx w K mg) : Prom P w K mg base CX0 1 "_law_put" s_L_put ["_law_on_here", "_law_move_here"] spLPut := by
  refine Prom.of T.d_L_put sc_L_put (fun vs H Q E h => ?_) (fun _ _ _ _ _ _ us hl => match us, hl with | [_, _], _ => rfl) (fun f cdv A outer s H vs Q E hr h => ?_)
  · obtain ⟨l, m, xs, ws, st, rfl, _⟩ := h
    rfl
  · obtain ⟨l, m, xs, ws, st, rfl, hl, hw, hlen, hm, hpop, k⟩ := h
    have hlx := hw.len
    refine ⟨_, (pss_cons (ps_if (pt_cmpR op_eq (pe_ix ix_tup (pv 1) pe_int (fun _ _ => rfl)) pe_str (nomark _)) (pss_one (ps_expr (pe_bm PySem.F.plainAttrs_list PySem.F.slot_list_append PySem.F.type_list_append mt_append (pv 0) (pa_cons (pe_ix ix_tup (pv 1) pe_int (fun _ _ => rfl)) pa_nil)))) pss_nil)
      (pss_one (ps_if (pt_cmpR op_eq (pe_ix ix_tup (pv 1) pe_int (fun _ _ => rfl)) pe_str (nomark _)) (pss_one (ps_expr (pe_bm0 PySem.F.plainAttrs_list PySem.F.slot_list_pop PySem.F.type_list_pop mt_pop (pv 0)))) pss_nil))), ?_⟩
    cases st with
    | push a =>
      obtain ⟨q, hm, ht⟩ := hm
      have nm : m ≠ l := fun z => by rw [z, hl] at hm; cases hm
      refine ⟨_, rfl, m, _, _, _, rfl, rfl, SqT.of hm, rfl, rfl, _, rfl, ifd_pos rfl ?_⟩
      refine ⟨_, rfl, .inl ⟨rfl, _, SqL.of hl⟩, _, rfl, m, _, _, _, rfl, rfl, SqT.of hm, rfl, l, _, _, rfl, rfl, hl, ?_, ?_⟩
      · rw [sizeLine_eq]
        omega
      · refine ⟨_, rfl, m, _, _, _, rfl, rfl, SqT.of (by rw [upd_ne nm]; exact hm), rfl, rfl, _, rfl, ifs_neg (show ("push" : Str) ≠ "pop" by decide) ?_⟩
        exact k _ (hw.snoc ht)
    | pop =>
      have hm : H m = _ := hm
      have nm : m ≠ l := fun z => by rw [z, hl] at hm; cases hm
      have hne := hpop rfl
      have hx : 0 < xs.length := by
        have : ws.length ≠ 0 := fun z => hne (List.eq_nil_of_length_eq_zero z)
        omega
      refine ⟨_, rfl, m, _, _, _, rfl, rfl, SqT.of hm, rfl, rfl, _, rfl, ifs_neg (show ("pop" : Str) ≠ "push" by decide) ?_⟩
      refine ⟨_, rfl, m, _, _, _, rfl, rfl, SqT.of hm, rfl, rfl, _, rfl, ifd_pos rfl ?_⟩
      exact ⟨_, rfl, .inl ⟨rfl, _, SqL.of hl⟩, l, _, xs[xs.length - 1], rfl, rfl, hl, List.getElem?_eq_getElem (by omega), k _ hw.dropLast⟩
    | bound n =>
      have hm : H m = _ := hm
      refine ⟨_, rfl, m, _, _, _, rfl, rfl, SqT.of hm, rfl, rfl, _, rfl, ifs_neg (show ("bound" : Str) ≠ "push" by decide) ?_⟩
      refine ⟨_, rfl, m, _, _, _, rfl, rfl, SqT.of hm, rfl, rfl, _, rfl, ifs_neg (show ("bound" : Str) ≠ "pop" by decide) ?_⟩
      have k2 := k xs hw
      rw [upd_id hl] at k2
      exact k2
end
noncomputable def trailL (b : Int) (ss : List Stp) (n : Int) (k : Nat) : List Int := (List.range k).map fun i => (trS b (ss.take i) n).1
theorem trailL_succ (b : Int) (ss : List Stp) (n : Int) (k : Nat) : trailL b ss n (k + 1) = trailL b ss n k ++ [(trS b (ss.take k) n).1] := by
  unfold trailL
  rw [List.range_succ, List.map_append]
  rfl
theorem trailL_len (b : Int) (ss : List Stp) (n : Int) (k : Nat) : (trailL b ss n k).length = k := by
  unfold trailL
  rw [List.length_map, List.length_range]
theorem trailL_at {b : Int} {ss : List Stp} {n : Int} {k i : Nat} (h : i < k) : (trailL b ss n k)[i]? = some (trS b (ss.take i) n).1 := by
  unfold trailL
  rw [List.getElem?_map, List.getElem?_range h]
  rfl
def IsStop (b : Int) (ss : List Stp) (n r : Int) : Prop := (r = -1 ∧ fitsP b ss n) ∨ ∃ (i : Nat) (m : Int), r = (i : Nat) ∧ ss[i]? = some (.bound m) ∧ m < grS b (onL (ss.take i)) n ∧ fitsP b (ss.take i) n
theorem inner_len (b : Int) (ws : List Wr) (n : Int) : (inner b ws n).length = ws.length := by
  unfold inner
  rw [List.length_map, List.length_range]
theorem atI_last1 {xs : List V} {y : V} : atI (xs ++ [y]) (-1) = some y := atI_last xs y
def spLTrail : Sp := fun vs H Q _ => ∃ (l : Addr) (xs : List V) (ss : List Stp) (n b : Int), vs = [.ref l, .int n, .int b] ∧ H l = some (.lst xs) ∧ MovesAt H xs ss ∧ RoadB b ss ∧ ss.length ≤ 1000 ∧ 2 ≤ b ∧ b ≤ 256 ∧ 0 ≤ n ∧ ∀ q H', H q = none → Same H H' → H' q = some (.lst ((trailL b ss n (ss.length + 1)).map V.int)) → Q (.ref q) H'
def spLStop : Sp := fun vs H Q _ => ∃ (l : Addr) (xs : List V) (ss : List Stp) (n b : Int), vs = [.ref l, .int n, .int b] ∧ H l = some (.lst xs) ∧ MovesAt H xs ss ∧ RoadB b ss ∧ ss.length ≤ 1000 ∧ 2 ≤ b ∧ b ≤ 256 ∧ 0 ≤ n ∧ ∀ r H', IsStop b ss n r → Same H H' → Q (.int r) H'
section
variable {P : Program} {w : World} {K : PySem.W.Frag} {mg : Str → Option Value} {base : Heap}
theorem ok_L_moves (T : Tx w K mg) : Prom P w K mg base CX0 6 "_law_moves" s_L_moves ["_law_pool_here", "_law_many", "_law_b", "_law_middle"] spLMoves := by
  refine Prom.of T.d_L_moves sc_L_moves (fun vs H Q E h => ?_) (fun _ _ _ _ _ _ us hl => match us, hl with | [_, _, _, _], _ => rfl) (fun f cdv A outer s H vs Q E hr h => ?_)
  · obtain ⟨p, n, b, m, rfl, _⟩ := h
    rfl
  · obtain ⟨p, n, b, m, rfl, hp, n0, n1, b0, b1, m0, k⟩ := h
    refine ⟨_, (pss_cons (ps_par (i := 4) (j := 5) (by rfl) sc_L_moves.nd rfl rfl (by decide) rfl rfl (pa_cons (pe_lst pa_nil) (pa_cons (pe_lst pa_nil) pa_nil)) (by rfl))
      (pss_cons (ps_for PassesOwn.never (by rfl) (pi_range1 (by rfl) T.b_range (pa_cons (pv 1) pa_nil)) (pg_name (i := 6) sc_L_moves.nd rfl (Or.inl rfl)) (pss_cons (ps_set (i := 7) sc_L_moves.nd rfl (Or.inl rfl) (pe_callP (ok_L_move T) (hr.mono (by decide)) (by rfl) pass0 (pa_cons (pv 0) (pa_cons (pv 5) (pa_cons (pv 2) (pa_cons (pv 3) pa_nil))))))
      (pss_cons (ps_expr (pe_bm PySem.F.plainAttrs_list PySem.F.slot_list_append PySem.F.type_list_append mt_append (pv 4) (pa_cons (pv 7) pa_nil)))
      (pss_one (ps_expr (pe_callP (ok_L_put T) (hr.mono (by decide)) (by rfl) pass0 (pa_cons (pv 5) (pa_cons (pv 7) pa_nil))))))))
      (pss_one (ps_ret (pv 4))))), ?_⟩
    refine ⟨Nat.zero_le _, fun lf hlf => ⟨Nat.zero_le _, fun lo hlo => ⟨_, _, rfl, ?_⟩⟩⟩
    have nfo : lf ≠ lo := ne_of_none upd_same hlo
    have nlo : H lo = none := same_before (up hlf) hlo
    have nfp := hp.ne hlf
    have nop := hp.ne nlo
    have d0 : Drew p H (upd (upd H lf (.lst [])) lo (.lst [])) := ((Drew.refl hp).new hlf).new hlo
    refine ⟨_, rfl, n, rfl, by omega, by omega, for_range (lo := 0) (fun i σ H' => Drew p H H' ∧ ∃ (xs ys : List V) (ss : List Stp) (v1 v2 : Option V), H' lf = some (.lst xs) ∧ H' lo = some (.lst ys) ∧ MovesAt H' xs ss ∧ TagsAt H' ys (onL ss) ∧ RoadB b ss ∧ ss.length = i ∧
      σ = [some (.ref p), some (.int n), some (.int b), some (.int m), some (.ref lf), some (.ref lo), v1, v2]) ⟨d0, [], [], [], none, none, up hlo _ _ upd_same, upd_same, .nil, .nil, .nil, rfl, rfl⟩ ?_ ?_⟩
    · rintro i σ H' hi ⟨hd, xs, ys, ss, v1, v2, hf, ho, hm, ht, rb, hlen, rfl⟩
      have hi : i < n.toNat := hi
      have so := rb.stk b0 b1
      refine ⟨_, rfl, _, rfl, _, rfl, _, rfl, p, lo, ys, onL ss, b, m, rfl, hd.at_, nop, ho, ht, so, m0, fun q st H2 sok nq d2 mv => ?_⟩
      have hf2 := d2.kp _ _ nfp hf
      have ho2 := d2.kp _ _ nop ho
      have hm2 := hm.drew d2 hd.at_
      have ht2 := d2.tags hd.at_ ht
      have hd2 := hd.trans d2
      refine ⟨_, rfl, .inl ⟨rfl, _, SqL.of hf2⟩, _, rfl, lf, _, _, rfl, rfl, hf2, ?_, ?_⟩
      · rw [hm.len, hlen, sizeLine_eq]
        omega
      have ho3 : (upd H2 lf (.lst (xs ++ [.ref q]))) lo = some (.lst ys) := by rw [upd_ne (Ne.symm nfo)]; exact ho2
      have ht3 := ht2.put (zs := xs ++ [.ref q]) hf2
      have mv3 := mv.put (zs := xs ++ [.ref q]) hf2
      refine ⟨_, rfl, _, rfl, lo, q, ys, onL ss, st, rfl, ho3, ht3, so.len, mv3, fun e => ?_, fun ys' ht4 => ?_⟩
      · rw [e] at sok
        exact sok
      refine ⟨(hd2.put hlf nfp).put nlo nop, xs ++ [.ref q], ys', ss ++ [st], _, _, ?_, upd_same, ?_, ?_, .snoc rb sok, ?_, rfl⟩
      · rw [upd_ne nfo, upd_same]
      · exact ((hm2.snoc mv).put hf2).put ho3
      · rw [onL_snoc]
        exact ht4.put ho3
      · rw [List.length_append, hlen]
        rfl
    · rintro σ H' ⟨hd, xs, ys, ss, v1, v2, hf, ho, hm, ht, rb, hlen, rfl⟩
      have hlen : ss.length = n.toNat := hlen
      exact ⟨_, rfl, k lf xs ss H' rb (by omega) hlf hd hf hm⟩
end
/-! ### roads -/
def StepAt (K : PySem.W.Frag) (H : Hp) (p : Addr) : Stp → Prop
  | .push a => ∃ q, H p = some (.tup [.str "push", .ref q]) ∧ WrapAt K H q a
  | .pop => H p = some (.tup [.str "pop"])
  | .bound n => H p = some (.tup [.str "bound", .int n])
/-- what is no list, and no such instance, stays -/
structure Keeps (K : PySem.W.Frag) (H H' : Hp) : Prop where
  tup : ∀ {q xs}, H q = some (.tup xs) → H' q = some (.tup xs)
  wrap : ∀ {q dx fs}, H q = some (.ins (He.ga K "Wrap") dx fs) → H' q = some (.ins (He.ga K "Wrap") dx fs)
  stack : ∀ {q dx fs}, H q = some (.ins (He.ga K "Stack") dx fs) → H' q = some (.ins (He.ga K "Stack") dx fs)
theorem Keeps.same {K : PySem.W.Frag} {H H' : Hp} (s : Same H H') : Keeps K H H' := ⟨fun h => s _ _ h, fun h => s _ _ h, fun h => s _ _ h⟩
theorem Keeps.lst {K : PySem.W.Frag} {H : Hp} {l : Addr} {ys zs : List V} (hl : H l = some (.lst ys)) : Keeps K H (upd H l (.lst zs)) :=
  ⟨fun {q xs} e => by rw [upd_ne (fun z => by rw [z, hl] at e; cases e)]; exact e, fun {q xs fs} e => by rw [upd_ne (fun z => by rw [z, hl] at e; cases e)]; exact e, fun {q xs fs} e => by rw [upd_ne (fun z => by rw [z, hl] at e; cases e)]; exact e⟩
theorem Keeps.trans {K : PySem.W.Frag} {H H1 H2 : Hp} (a : Keeps K H H1) (b : Keeps K H1 H2) : Keeps K H H2 := ⟨fun h => b.tup (a.tup h), fun h => b.wrap (a.wrap h), fun h => b.stack (a.stack h)⟩
/-- only the road at r changes -/
theorem Keeps.road {K : PySem.W.Frag} {H H' : Hp} {r dr : Addr} {fs : List (Str × V)} (n1 : He.ga K "Road" ≠ He.ga K "Wrap") (n2 : He.ga K "Road" ≠ He.ga K "Stack") (hr : H r = some (.ins (He.ga K "Road") dr fs)) (k : Kp r H H') : Keeps K H H' :=
  ⟨fun {q xs} e => k _ _ (fun z => by rw [z, hr] at e; cases e) e, fun {q xs fs} e => k _ _ (fun z => by rw [z, hr] at e; exact n1 (by injection e with e; injection e)) e, fun {q xs fs} e => k _ _ (fun z => by rw [z, hr] at e; exact n2 (by injection e with e; injection e)) e⟩
theorem WrapAt.keeps {K : PySem.W.Frag} {H H' : Hp} {q : Addr} {a : Wr} (h : WrapAt K H q a) (k : Keeps K H H') : WrapAt K H' q a := by
  obtain ⟨dx, p, h1, h2⟩ := h
  exact ⟨dx, p, k.wrap h1, k.tup h2⟩
theorem WrapsAt.keeps {K : PySem.W.Frag} {H H' : Hp} {xs : List V} {ws : List Wr} (h : WrapsAt K H xs ws) (k : Keeps K H H') : WrapsAt K H' xs ws := by
  induction h with
  | nil => exact .nil
  | cons h _ ih => exact .cons (h.keeps k) ih
theorem WrapsAt.dropLast {K : PySem.W.Frag} {H : Hp} {xs : List V} {ws : List Wr} (h : WrapsAt K H xs ws) : WrapsAt K H xs.dropLast ws.dropLast := by
  induction h with
  | nil => exact .nil
  | cons h r ih =>
    cases r with
    | nil => exact .nil
    | cons h2 r2 => exact .cons h ih
theorem StkAt.keeps {K : PySem.W.Frag} {H H' : Hp} {q : Addr} {b : Int} {ws : List Wr} (h : StkAt K H q b ws) (k : Keeps K H H') : StkAt K H' q b ws := by
  obtain ⟨dx, t, xs, h1, h2, h3⟩ := h
  exact ⟨dx, t, xs, k.stack h1, k.tup h2, h3.keeps k⟩
theorem StepAt.keeps {K : PySem.W.Frag} {H H' : Hp} {p : Addr} {s : Stp} (h : StepAt K H p s) (k : Keeps K H H') : StepAt K H' p s := by
  cases s with
  | push a =>
    obtain ⟨q, h1, h2⟩ := h
    exact ⟨q, k.tup h1, h2.keeps k⟩
  | pop => exact k.tup h
  | bound n => exact k.tup h
inductive StepsAt (K : PySem.W.Frag) (H : Hp) : List V → List Stp → Prop where
  | nil : StepsAt K H [] []
  | cons {p : Addr} {s : Stp} {xs : List V} {ss : List Stp} (h : StepAt K H p s) (r : StepsAt K H xs ss) : StepsAt K H (.ref p :: xs) (s :: ss)
theorem StepsAt.len {K : PySem.W.Frag} {H : Hp} {xs : List V} {ss : List Stp} (h : StepsAt K H xs ss) : xs.length = ss.length := by
  induction h with
  | nil => rfl
  | cons _ _ ih => exact congrArg (· + 1) ih
theorem StepsAt.get {K : PySem.W.Frag} {H : Hp} {xs : List V} {ss : List Stp} (h : StepsAt K H xs ss) : ∀ {i : Nat} {x : V}, xs[i]? = some x → ∃ (p : Addr) (s : Stp), x = .ref p ∧ ss[i]? = some s ∧ StepAt K H p s := by
  induction h with
  | nil =>
    intro i x e
    simp at e
  | cons h _ ih =>
    intro i x e
    cases i with
    | zero =>
      simp at e
      exact ⟨_, _, e.symm, rfl, h⟩
    | succ i => exact ih (by simpa using e)
theorem StepsAt.keeps {K : PySem.W.Frag} {H H' : Hp} {xs : List V} {ss : List Stp} (h : StepsAt K H xs ss) (k : Keeps K H H') : StepsAt K H' xs ss := by
  induction h with
  | nil => exact .nil
  | cons h _ ih => exact .cons (h.keeps k) ih
theorem StepsAt.snoc {K : PySem.W.Frag} {H : Hp} {xs : List V} {ss : List Stp} {p : Addr} {s : Stp} (h : StepsAt K H xs ss) (hx : StepAt K H p s) : StepsAt K H (xs ++ [.ref p]) (ss ++ [s]) := by
  induction h with
  | nil => exact .cons hx .nil
  | cons h _ ih => exact .cons h ih
theorem StepsAt.take {K : PySem.W.Frag} {H : Hp} {xs : List V} {ss : List Stp} (h : StepsAt K H xs ss) : ∀ i : Nat, StepsAt K H (xs.take i) (ss.take i) := by
  induction h with
  | nil => intro i; simp; exact .nil
  | cons h _ ih =>
    intro i
    cases i with
    | zero => exact .nil
    | succ i => exact .cons h (ih i)
def roadFs (b : Int) (t q : Addr) : List (Str × V) := [("base", .int b), ("steps", .ref t), ("stack", .ref q), ("busy", .bl false)]
/-- a road stands there -/
structure RoadAt (K : PySem.W.Frag) (H : Hp) (r : Addr) (b : Int) (ss : List Stp) : Prop where
  at_ : ∃ dx t q xs, H r = some (.ins (He.ga K "Road") dx (roadFs b t q)) ∧ H t = some (.tup xs) ∧ StepsAt K H xs ss ∧ StkAt K H q b (onL ss)
  rb : RoadB b ss
  b0 : 2 ≤ b
  b1 : b ≤ 256
  len : ss.length ≤ 1000
theorem RoadAt.same {K : PySem.W.Frag} {H H' : Hp} {r : Addr} {b : Int} {ss : List Stp} (h : RoadAt K H r b ss) (s : Same H H') : RoadAt K H' r b ss := by
  obtain ⟨⟨dx, t, q, xs, h1, h2, h3, h4⟩, rest⟩ := h
  exact ⟨⟨dx, t, q, xs, s _ _ h1, s _ _ h2, h3.keeps (.same s), h4.same s⟩, by assumption, by assumption, by assumption, by assumption⟩
theorem RoadAt.kp {K : PySem.W.Frag} {H H' : Hp} {r l : Addr} {ys : List V} {b : Int} {ss : List Stp} (h : RoadAt K H r b ss) (hl : H l = some (.lst ys)) (k : Kp l H H') : RoadAt K H' r b ss := by
  obtain ⟨⟨dx, t, q, xs, h1, h2, h3, h4⟩, rest⟩ := h
  have ks : Keeps K H H' := ⟨fun {q xs} e => k _ _ (fun z => by rw [z, hl] at e; cases e) e, fun {q xs fs} e => k _ _ (fun z => by rw [z, hl] at e; cases e) e, fun {q xs fs} e => k _ _ (fun z => by rw [z, hl] at e; cases e) e⟩
  exact ⟨⟨dx, t, q, xs, k _ _ (fun z => by rw [z, hl] at h1; cases h1) h1, ks.tup h2, h3.keeps ks, h4.keeps ks⟩, by assumption, by assumption, by assumption, by assumption⟩
def spFree (K : PySem.W.Frag) : Sp := fun vs H Q _ => ∃ (r : Addr) (b : Int) (ss : List Stp), vs = [.ref r] ∧ RoadAt K H r b ss ∧ Q .non H
def spBehind (K : PySem.W.Frag) : Sp := fun vs H Q _ => ∃ (t : Addr) (xs : List V) (b : Int) (ss : List Stp), vs = [.int b, .ref t] ∧ H t = some (.tup xs) ∧ StepsAt K H xs ss ∧ RoadB b ss ∧ 2 ≤ b ∧ b ≤ 256 ∧ ∀ q H', H q = none → Same H H' → StkAt K H' q b (onL ss) → Q (.ref q) H'
def spCheckPush (K : PySem.W.Frag) : Sp := fun vs H Q _ => ∃ (q r : Addr) (b : Int) (ws : List Wr) (a : Wr), vs = [.ref q, .ref r] ∧ StkAt K H q b ws ∧ WrapAt K H r a ∧ StkOk b (ws ++ [a]) ∧ ∀ H', Same H H' → Q .non H'
def spAddStep (K : PySem.W.Frag) : Sp := fun vs H Q _ => ∃ (r t : Addr) (b : Int) (ss : List Stp) (s : Stp), vs = [.ref r, .ref t] ∧ RoadAt K H r b ss ∧ ss.length < 1000 ∧ StepAt K H t s ∧ stepOk b (onL ss) s ∧ ∀ H', Kp r H H' → RoadAt K H' r b (ss ++ [s]) → Q .non H'
def spRoad (K : PySem.W.Frag) : Sp := fun vs H Q _ => ∃ (b : Int), vs = [.int b] ∧ 2 ≤ b ∧ b ≤ 256 ∧ ∀ q H', H q = none → Same H H' → RoadAt K H' q b [] → Q (.ref q) H'
def spPush (K : PySem.W.Frag) : Sp := fun vs H Q _ => ∃ (r q : Addr) (b : Int) (ss : List Stp) (a : Wr), vs = [.ref r, .ref q] ∧ RoadAt K H r b ss ∧ ss.length < 1000 ∧ WrapAt K H q a ∧ StkOk b (onL ss ++ [a]) ∧ ∀ H', Kp r H H' → RoadAt K H' r b (ss ++ [.push a]) → Q .non H'
def spPop (K : PySem.W.Frag) : Sp := fun vs H Q _ => ∃ (r : Addr) (b : Int) (ss : List Stp), vs = [.ref r] ∧ RoadAt K H r b ss ∧ ss.length < 1000 ∧ onL ss ≠ [] ∧ ∀ H', Kp r H H' → RoadAt K H' r b (ss ++ [.pop]) → Q .non H'
def spBound (K : PySem.W.Frag) : Sp := fun vs H Q _ => ∃ (r : Addr) (b n : Int) (ss : List Stp), vs = [.ref r, .int n] ∧ RoadAt K H r b ss ∧ ss.length < 1000 ∧ 0 ≤ n ∧ n ≤ 10 ^ 60 - 1 ∧ ∀ H', Kp r H H' → RoadAt K H' r b (ss ++ [.bound n]) → Q .non H'
section
variable {P : Program} {w : World} {K : PySem.W.Frag} {mg : Str → Option Value} {base : Heap}
theorem ok_check_free (T : Tx w K mg) : Prom P w K mg base CX0 1 "check_free" s_check_free ["road"] (spFree K) := by
  refine Prom.of T.d_check_free sc_check_free (fun vs H Q E h => ?_) (fun _ _ _ _ _ _ us hl => match us, hl with | [_], _ => rfl) (fun f cdv A outer s H vs Q E hr h => ?_)
  · obtain ⟨r, b, ss, rfl, _⟩ := h
    rfl
  · obtain ⟨r, b, ss, rfl, hR, k⟩ := h
    obtain ⟨dx, t, q, xs, h1, h2, h3, h4⟩ := hR.at_
    refine ⟨_, (pss_one (ps_if (pt_val (pe_fld (pv 0) rfl)) (pss_one ps_never) pss_nil)), ?_⟩
    exact ⟨_, rfl, r, _, dx, _, _, rfl, h1, T.cl_Road, T.na_Road_busy, rfl, _, rfl, iteF k⟩
theorem ok_stack_behind (T : Tx w K mg) : Prom P w K mg base CX0 6 "stack_behind" s_stack_behind ["base", "steps"] (spBehind K) := by
  refine Prom.of T.d_stack_behind sc_stack_behind (fun vs H Q E h => ?_) (fun _ _ _ _ _ _ us hl => match us, hl with | [_, _], _ => rfl) (fun f cdv A outer s H vs Q E hr h => ?_)
  · obtain ⟨t, xs, b, ss, rfl, _⟩ := h
    rfl
  · obtain ⟨t, xs, b, ss, rfl, ht, hw, rb, b0, b1, k⟩ := h
    refine ⟨_, (pss_cons (ps_set (i := 2) sc_stack_behind.nd rfl (Or.inl rfl) (pe_lst pa_nil))
      (pss_cons (ps_for PassesOwn.never (by rfl) (pi_tup (pv 1)) (pg_name (i := 3) sc_stack_behind.nd rfl (Or.inl rfl)) (pss_one (ps_if (pt_cmpR op_eq (pe_ix ix_tup (pv 3) pe_int (fun _ _ => rfl)) pe_str (nomark _)) (pss_one (ps_expr (pe_bm PySem.F.plainAttrs_list PySem.F.slot_list_append PySem.F.type_list_append mt_append (pv 2) (pa_cons (pe_ix ix_tup (pv 3) pe_int (fun _ _ => rfl)) pa_nil)))) (pss_one (ps_if (pt_cmpR op_eq (pe_ix ix_tup (pv 3) pe_int (fun _ _ => rfl)) pe_str (nomark _)) (pss_one (ps_expr (pe_bm0 PySem.F.plainAttrs_list PySem.F.slot_list_pop PySem.F.type_list_pop mt_pop (pv 2)))) pss_nil)))))
      (pss_one (ps_ret (pe_newS (ok_Stack T) (hr.mono (by decide)) (by rfl) pass0 (pa_cons (pv 0) (StX.pa_star (pv 2) pa_nil))))))), ?_⟩
    refine ⟨Nat.zero_le _, fun l hl => ?_⟩
    refine ⟨_, rfl, t, rfl, ⟨_, SqT.of (up hl _ _ ht)⟩, for_it (walk_tup (K := K) (a := t) (xs := xs)) (fun i σ H' => Same H H' ∧ ∃ (ys : List V) (v : Option V), H' l = some (.lst ys) ∧ WrapsAt K H' ys (onL (ss.take i)) ∧ σ = [some (.int b), some (.ref t), some (.ref l), v]) ⟨up hl, [], none, upd_same, .nil, rfl⟩ (fun _ _ H' _ h => SqT.of (h.1 _ _ ht)) ?_ ?_⟩
    · rintro i x σ H1 H2 hi ⟨hs, ys, v, hl1, hy, rfl⟩ ⟨rfl, hx⟩
      obtain ⟨q, st, rfl, hst, hq⟩ := hw.get hx
      have et : ss.take (i + 1) = ss.take i ++ [st] := by
        rw [List.take_succ, hst]
        rfl
      have sok := rb.at_ hst
      have so := (rb.take i).stk b0 b1
      have so6 := so.len
      have hyl := hy.len
      rw [et, onL_snoc]
      have keep : ∀ zs : List V, Same H (upd H2 l (.lst zs)) := fun zs y o e => by
        rw [upd_ne (ne_of_none e hl)]
        exact hs _ _ e
      have hq := hq.keeps (.same hs)
      cases st with
      | push a =>
        obtain ⟨u, h1, h2⟩ := hq
        refine ⟨_, rfl, q, _, _, _, rfl, rfl, SqT.of h1, rfl, rfl, _, rfl, ifd_pos rfl ?_⟩
        refine ⟨_, rfl, .inl ⟨rfl, _, SqL.of hl1⟩, _, rfl, q, _, _, _, rfl, rfl, SqT.of h1, rfl, l, _, _, rfl, rfl, hl1, ?_, ?_⟩
        · rw [sizeLine_eq]
          omega
        exact ⟨keep _, _, _, upd_same, (hy.snoc h2).keeps (.lst hl1), rfl⟩
      | pop =>
        have h1 : H2 q = _ := hq
        have ne : onL (ss.take i) ≠ [] := sok
        have hne : 0 < ys.length := by
          have : (onL (ss.take i)).length ≠ 0 := fun y => ne (List.eq_nil_of_length_eq_zero y)
          omega
        refine ⟨_, rfl, q, _, _, _, rfl, rfl, SqT.of h1, rfl, rfl, _, rfl, ifs_neg (show ("pop" : Str) ≠ "push" by decide) ?_⟩
        refine ⟨_, rfl, q, _, _, _, rfl, rfl, SqT.of h1, rfl, rfl, _, rfl, ifd_pos rfl ?_⟩
        exact ⟨_, rfl, .inl ⟨rfl, _, SqL.of hl1⟩, l, _, ys[ys.length - 1], rfl, rfl, hl1, List.getElem?_eq_getElem (by omega), keep _, _, _, upd_same, hy.dropLast.keeps (.lst hl1), rfl⟩
      | bound n =>
        have h1 : H2 q = _ := hq
        refine ⟨_, rfl, q, _, _, _, rfl, rfl, SqT.of h1, rfl, rfl, _, rfl, ifs_neg (show ("bound" : Str) ≠ "push" by decide) ?_⟩
        refine ⟨_, rfl, q, _, _, _, rfl, rfl, SqT.of h1, rfl, rfl, _, rfl, ifs_neg (show ("bound" : Str) ≠ "pop" by decide) ?_⟩
        exact ⟨hs, _, _, hl1, hy, rfl⟩
    · rintro σ H' ⟨hs, ys, v, hl1, hy, rfl⟩
      rw [hw.len, List.take_length] at hy
      refine ⟨_, rfl, _, rfl, l, ys, rfl, .inr (SqL.of hl1), b, ys ++ [], onL ss, rfl, rb.stk b0 b1, by rw [List.append_nil]; exact hy, fun q H2 nq s2 st => ?_⟩
      exact k q H2 (same_before hs nq) (hs.trans s2) st
theorem ok_check_push (T : Tx w K mg) : Prom P w K mg base CX0 3 "check_push" s_check_push ["stack", "wrap"] (spCheckPush K) := by
  refine Prom.of T.d_check_push sc_check_push (fun vs H Q E h => ?_) (fun _ _ _ _ _ _ us hl => match us, hl with | [_, _], _ => rfl) (fun f cdv A outer s H vs Q E hr h => ?_)
  · obtain ⟨q, r, b, ws, a, rfl, _⟩ := h
    rfl
  · obtain ⟨q, r, b, ws, a, rfl, hS, hW, so, k⟩ := h
    obtain ⟨dx, t, xs, hq, ht, hw⟩ := id hS
    have l6 := so.len
    rw [List.length_append] at l6
    have l6 : ws.length + 1 ≤ 6 := l6
    have f6 := so.fine
    refine ⟨_, (pss_cons (ps_expr (pe_callP (ok_check_wrap T) (hr.mono (by decide)) (by rfl) pass0 (pa_cons (pv 1) pa_nil)))
      (pss_cons (ps_if (pt_cmp (pc_eqI (pe_callB (cr_lenO (ok_Stack___len__ T) (hr.mono (by decide)) pass0) (by rfl) T.b_len (by decide +kernel) (pa_cons (pv 0) pa_nil)) (pe_gint T.c_MOST_WRAPS))) (pss_one ps_never) pss_nil)
      (pss_one (ps_if (pt_cmp (pc_gt (pe_callP (ok_fineness_of T) (hr.mono (by decide)) (by rfl) pass0 (pa_cons (pe_lst (StX.pa_star (pe_fld (pv 0) rfl) (pa_cons (pv 1) pa_nil))) pa_nil)) (pe_gint T.c_MOST_FINENESS))) (pss_one ps_never) pss_nil)))), ?_⟩
    refine ⟨_, rfl, r, a, rfl, hW, ?_⟩
    refine ⟨_, rfl, q, dx, _, rfl, hq, q, b, ws, rfl, hS, _, rfl, by omega, by omega, _, _, rfl, rfl, _, rfl, ifd (fun c => absurd c (by show ¬ (ws.length : Int) = 6; omega)) (fun _ => ?_)⟩
    refine ⟨_, rfl, q, _, dx, _, _, rfl, hq, T.cl_Stack, T.na_Stack_wraps, rfl, t, xs, rfl, .inl (SqT.of ht), _, rfl, ?_, fun l hl => ?_⟩
    · rw [List.length_append, hw.len, sizeLine_eq]
      simp
      omega
    have s1 := up (o := .lst (xs ++ [.ref r])) hl
    refine ⟨l, xs ++ [V.ref r], ws ++ [a], rfl, .inl (SqL.of upd_same), (hw.same s1).snoc (hW.same s1), so.ok, fun H2 s2 => ⟨_, _, rfl, rfl, _, rfl, ifd (fun c => absurd c (by show ¬ fineL (ws ++ [a]) > 120; omega)) (fun _ => ?_)⟩⟩
    exact k _ (s1.trans s2)
end
section
variable {P : Program} {w : World} {K : PySem.W.Frag} {mg : Str → Option Value} {base : Heap}
theorem ok_add_step (T : Tx w K mg) : Prom P w K mg base CX0 7 "add_step" s_add_step ["road", "step"] (spAddStep K) := by
  refine Prom.of T.d_add_step sc_add_step (fun vs H Q E h => ?_) (fun _ _ _ _ _ _ us hl => match us, hl with | [_, _], _ => rfl) (fun f cdv A outer s H vs Q E hr h => ?_)
  · obtain ⟨r, t, b, ss, st, rfl, _⟩ := h
    rfl
  · obtain ⟨r, t, b, ss, st, rfl, hR, hlen, hst, sok, k⟩ := h
    obtain ⟨dx, t0, q0, xs, h1, h2, h3, h4⟩ := hR.at_
    refine ⟨_, (pss_cons (ps_if (pt_cmpR op_eq (pe_ix ix_tup (pv 1) pe_int (fun _ _ => rfl)) pe_str (nomark _)) (pss_one (ps_expr (pe_callP (ok_check_push T) (hr.mono (by decide)) (by rfl) pass0 (pa_cons (pe_fld (pv 0) rfl) (pa_cons (pe_ix ix_tup (pv 1) pe_int (fun _ _ => rfl)) pa_nil))))) (pss_one (ps_if (pt_cmpR op_eq (pe_ix ix_tup (pv 1) pe_int (fun _ _ => rfl)) pe_str (nomark _)) (pss_one (ps_expr (pe_callP (ok_check_length T) (hr.mono (by decide)) (by rfl) pass0 (pa_cons (pe_ix ix_tup (pv 1) pe_int (fun _ _ => rfl)) pa_nil)))) (pss_one (ps_if (pt_cmp (pc_eqI (pe_callB (cr_lenO (ok_Stack___len__ T) (hr.mono (by decide)) pass0) (by rfl) T.b_len (by decide +kernel) (pa_cons (pe_fld (pv 0) rfl) pa_nil)) pe_int)) (pss_one ps_never) pss_nil)))))
      (pss_cons (ps_fld (pv 0) (pe_tup (StX.pa_star (pe_fld (pv 0) rfl) (pa_cons (pv 1) pa_nil))) rfl)
      (pss_one (ps_fld (pv 0) (pe_callP (ok_stack_behind T) (hr.mono (by decide)) (by rfl) pass0 (pa_cons (pe_fld (pv 0) rfl) (pa_cons (pe_fld (pv 0) rfl) pa_nil))) rfl)))), ?_⟩
    have s0 := Same.refl H
    cases st with
    | push a =>
      obtain ⟨u, g1, g2⟩ := id hst
      refine ⟨_, rfl, t, _, _, _, rfl, rfl, SqT.of g1, rfl, rfl, _, rfl, ifd_pos rfl ?_⟩
      refine ⟨_, rfl, r, _, dx, _, _, rfl, h1, T.cl_Road, T.na_Road_stack, rfl, _, rfl, t, _, _, _, rfl, rfl, SqT.of g1, rfl, q0, u, b, onL ss, a, rfl, h4, g2, sok, fun H1 s1 => ?_⟩
      refine ⟨_, rfl, r, _, dx, _, _, rfl, s1 _ _ h1, T.cl_Road, T.na_Road_steps, rfl, t0, xs, rfl, .inl (SqT.of (s1 _ _ h2)), _, rfl, ?_, fun t2 ht2 => ?_⟩
      · rw [List.length_append, h3.len, sizeLine_eq]
        simp
        omega
      have s2 := s1.trans (up (o := .tup (xs ++ ([V.ref t] ++ []))) ht2)
      refine ⟨_, rfl, r, _, dx, _, rfl, s2 _ _ h1, T.cl_Road, T.na_Road_steps, (show (4 : Nat) < 1000 by decide), ?_⟩
      have nr2 : t2 ≠ r := fun z => by
        have := s1 _ _ h1
        rw [← z, ht2] at this
        cases this
      have g1 : ∀ o, (upd (upd H1 t2 (.tup (xs ++ ([V.ref t] ++ [])))) r o) t2 = some (.tup (xs ++ [V.ref t])) := fun o => by
        rw [upd_ne nr2, upd_same, List.append_nil]
      have kp1 : Kp r H (upd (upd H1 t2 (.tup (xs ++ ([V.ref t] ++ [])))) r (.ins (He.ga K "Road") dx (roadFs b t2 q0))) := Kp.set (fun y o n e => s2 _ _ e)
      have ks1 := Keeps.road T.ne_Road_Wrap T.ne_Road_Stack h1 kp1
      have st1 : StepsAt K (upd (upd H1 t2 (.tup (xs ++ ([V.ref t] ++ [])))) r (.ins (He.ga K "Road") dx (roadFs b t2 q0))) (xs ++ [V.ref t]) (ss ++ [.push a]) := (h3.snoc hst).keeps ks1
      have rb2 : RoadB b (ss ++ [.push a]) := .snoc hR.rb sok
      refine ⟨_, rfl, r, _, dx, _, _, rfl, upd_same, T.cl_Road, T.na_Road_base, rfl, _, rfl, r, _, dx, _, _, rfl, upd_same, T.cl_Road, T.na_Road_steps, rfl, t2, _, b, _, rfl, g1 _, st1, rb2, hR.b0, hR.b1, fun q3 H3 nq3 s3 stk3 => ?_⟩
      refine ⟨_, rfl, r, _, dx, _, rfl, s3 _ _ upd_same, T.cl_Road, T.na_Road_stack, (show (4 : Nat) < 1000 by decide), ?_⟩
      have kp2 : Kp r H (upd H3 r (.ins (He.ga K "Road") dx (roadFs b t2 q3))) := Kp.set (fun y o n e => s3 _ _ (kp1 y o n e))
      have ks2 : Keeps K H3 (upd H3 r (.ins (He.ga K "Road") dx (roadFs b t2 q3))) := Keeps.road T.ne_Road_Wrap T.ne_Road_Stack (s3 _ _ upd_same) (Kp.set (Kp.refl r H3))
      refine k _ kp2 ⟨⟨dx, t2, q3, _, upd_same, ks2.tup (s3 _ _ (g1 _)), (st1.keeps (.same s3)).keeps ks2, stk3.keeps ks2⟩, rb2, hR.b0, hR.b1, by rw [List.length_append]; simp; omega⟩
    | pop =>
      have g1 : H t = _ := hst
      have ne : onL ss ≠ [] := sok
      have hn : (onL ss).length ≠ 0 := fun y => ne (List.eq_nil_of_length_eq_zero y)
      have so := hR.rb.stk hR.b0 hR.b1
      have so6 := so.len
      obtain ⟨dz, tz, xz, z1, z2, z3⟩ := id h4
      refine ⟨_, rfl, t, _, _, _, rfl, rfl, SqT.of g1, rfl, rfl, _, rfl, ifs_neg (show ("pop" : Str) ≠ "push" by decide) ?_⟩
      refine ⟨_, rfl, t, _, _, _, rfl, rfl, SqT.of g1, rfl, rfl, _, rfl, ifs_neg (show ("pop" : Str) ≠ "bound" by decide) ?_⟩
      refine ⟨_, rfl, r, _, dx, _, _, rfl, h1, T.cl_Road, T.na_Road_stack, rfl, q0, dz, _, rfl, z1, q0, b, onL ss, rfl, h4, _, rfl, by omega, by omega, _, _, rfl, rfl, _, rfl, ifd (fun c => absurd c (by show ¬ ((onL ss).length : Int) = 0; omega)) (fun _ => ?_)⟩
      refine ⟨_, rfl, r, _, dx, _, _, rfl, s0 _ _ h1, T.cl_Road, T.na_Road_steps, rfl, t0, xs, rfl, .inl (SqT.of (s0 _ _ h2)), _, rfl, ?_, fun t2 ht2 => ?_⟩
      · rw [List.length_append, h3.len, sizeLine_eq]
        simp
        omega
      have s2 := s0.trans (up (o := .tup (xs ++ ([V.ref t] ++ []))) ht2)
      refine ⟨_, rfl, r, _, dx, _, rfl, s2 _ _ h1, T.cl_Road, T.na_Road_steps, (show (4 : Nat) < 1000 by decide), ?_⟩
      have nr2 : t2 ≠ r := fun z => by
        have := s0 _ _ h1
        rw [← z, ht2] at this
        cases this
      have g1 : ∀ o, (upd (upd H t2 (.tup (xs ++ ([V.ref t] ++ [])))) r o) t2 = some (.tup (xs ++ [V.ref t])) := fun o => by
        rw [upd_ne nr2, upd_same, List.append_nil]
      have kp1 : Kp r H (upd (upd H t2 (.tup (xs ++ ([V.ref t] ++ [])))) r (.ins (He.ga K "Road") dx (roadFs b t2 q0))) := Kp.set (fun y o n e => s2 _ _ e)
      have ks1 := Keeps.road T.ne_Road_Wrap T.ne_Road_Stack h1 kp1
      have st1 : StepsAt K (upd (upd H t2 (.tup (xs ++ ([V.ref t] ++ [])))) r (.ins (He.ga K "Road") dx (roadFs b t2 q0))) (xs ++ [V.ref t]) (ss ++ [.pop]) := (h3.snoc hst).keeps ks1
      have rb2 : RoadB b (ss ++ [.pop]) := .snoc hR.rb sok
      refine ⟨_, rfl, r, _, dx, _, _, rfl, upd_same, T.cl_Road, T.na_Road_base, rfl, _, rfl, r, _, dx, _, _, rfl, upd_same, T.cl_Road, T.na_Road_steps, rfl, t2, _, b, _, rfl, g1 _, st1, rb2, hR.b0, hR.b1, fun q3 H3 nq3 s3 stk3 => ?_⟩
      refine ⟨_, rfl, r, _, dx, _, rfl, s3 _ _ upd_same, T.cl_Road, T.na_Road_stack, (show (4 : Nat) < 1000 by decide), ?_⟩
      have kp2 : Kp r H (upd H3 r (.ins (He.ga K "Road") dx (roadFs b t2 q3))) := Kp.set (fun y o n e => s3 _ _ (kp1 y o n e))
      have ks2 : Keeps K H3 (upd H3 r (.ins (He.ga K "Road") dx (roadFs b t2 q3))) := Keeps.road T.ne_Road_Wrap T.ne_Road_Stack (s3 _ _ upd_same) (Kp.set (Kp.refl r H3))
      refine k _ kp2 ⟨⟨dx, t2, q3, _, upd_same, ks2.tup (s3 _ _ (g1 _)), (st1.keeps (.same s3)).keeps ks2, stk3.keeps ks2⟩, rb2, hR.b0, hR.b1, by rw [List.length_append]; simp; omega⟩
    | bound n =>
      have g1 : H t = _ := hst
      have sok2 : 0 ≤ n ∧ n ≤ 10 ^ 60 - 1 := sok
      refine ⟨_, rfl, t, _, _, _, rfl, rfl, SqT.of g1, rfl, rfl, _, rfl, ifs_neg (show ("bound" : Str) ≠ "push" by decide) ?_⟩
      refine ⟨_, rfl, t, _, _, _, rfl, rfl, SqT.of g1, rfl, rfl, _, rfl, ifd_pos rfl ?_⟩
      refine ⟨_, rfl, t, _, _, _, rfl, rfl, SqT.of g1, rfl, n, rfl, sok2.1, sok2.2, ?_⟩
      refine ⟨_, rfl, r, _, dx, _, _, rfl, s0 _ _ h1, T.cl_Road, T.na_Road_steps, rfl, t0, xs, rfl, .inl (SqT.of (s0 _ _ h2)), _, rfl, ?_, fun t2 ht2 => ?_⟩
      · rw [List.length_append, h3.len, sizeLine_eq]
        simp
        omega
      have s2 := s0.trans (up (o := .tup (xs ++ ([V.ref t] ++ []))) ht2)
      refine ⟨_, rfl, r, _, dx, _, rfl, s2 _ _ h1, T.cl_Road, T.na_Road_steps, (show (4 : Nat) < 1000 by decide), ?_⟩
      have nr2 : t2 ≠ r := fun z => by
        have := s0 _ _ h1
        rw [← z, ht2] at this
        cases this
      have g1 : ∀ o, (upd (upd H t2 (.tup (xs ++ ([V.ref t] ++ [])))) r o) t2 = some (.tup (xs ++ [V.ref t])) := fun o => by
        rw [upd_ne nr2, upd_same, List.append_nil]
      have kp1 : Kp r H (upd (upd H t2 (.tup (xs ++ ([V.ref t] ++ [])))) r (.ins (He.ga K "Road") dx (roadFs b t2 q0))) := Kp.set (fun y o n e => s2 _ _ e)
      have ks1 := Keeps.road T.ne_Road_Wrap T.ne_Road_Stack h1 kp1
      have st1 : StepsAt K (upd (upd H t2 (.tup (xs ++ ([V.ref t] ++ [])))) r (.ins (He.ga K "Road") dx (roadFs b t2 q0))) (xs ++ [V.ref t]) (ss ++ [.bound n]) := (h3.snoc hst).keeps ks1
      have rb2 : RoadB b (ss ++ [.bound n]) := .snoc hR.rb sok
      refine ⟨_, rfl, r, _, dx, _, _, rfl, upd_same, T.cl_Road, T.na_Road_base, rfl, _, rfl, r, _, dx, _, _, rfl, upd_same, T.cl_Road, T.na_Road_steps, rfl, t2, _, b, _, rfl, g1 _, st1, rb2, hR.b0, hR.b1, fun q3 H3 nq3 s3 stk3 => ?_⟩
      refine ⟨_, rfl, r, _, dx, _, rfl, s3 _ _ upd_same, T.cl_Road, T.na_Road_stack, (show (4 : Nat) < 1000 by decide), ?_⟩
      have kp2 : Kp r H (upd H3 r (.ins (He.ga K "Road") dx (roadFs b t2 q3))) := Kp.set (fun y o n e => s3 _ _ (kp1 y o n e))
      have ks2 : Keeps K H3 (upd H3 r (.ins (He.ga K "Road") dx (roadFs b t2 q3))) := Keeps.road T.ne_Road_Wrap T.ne_Road_Stack (s3 _ _ upd_same) (Kp.set (Kp.refl r H3))
      refine k _ kp2 ⟨⟨dx, t2, q3, _, upd_same, ks2.tup (s3 _ _ (g1 _)), (st1.keeps (.same s3)).keeps ks2, stk3.keeps ks2⟩, rb2, hR.b0, hR.b1, by rw [List.length_append]; simp; omega⟩
def spRoad0 (K : PySem.W.Frag) : Sp := fun vs H Q _ => ∃ (x dx : Addr) (b : Int), vs = [.ref x, .int b] ∧ 2 ≤ b ∧ b ≤ 256 ∧ H x = some (.ins (He.ga K "Road") dx []) ∧
  ∀ H' t q, Kp x H H' → H' x = some (.ins (He.ga K "Road") dx (roadFs b t q)) → H' t = some (.tup []) → StkAt K H' q b [] → Q .non H'
theorem ok_Road (T : Tx w K mg) : PromC P w K mg base CX0 6 "Road" (spRoad K) := by
  refine PromC.plain (sp0 := spRoad0 K) T.mk_Road T.k_Road T.dm_Road___init__ sc_Road___init__ (fun vs H Q E h => ?_) (fun _ _ _ _ _ _ us hl => match us, hl with | [_, _], _ => rfl) (fun f cdv A outer s H vs Q E hr h => ?_) (fun vs H Q E h x dx hx hdx ne => ?_)
  · obtain ⟨x, dx, b, rfl, _⟩ := h
    rfl
  · obtain ⟨x, dx, b, rfl, b0, b1, hx, k⟩ := h
    refine ⟨_, (pss_cons (ps_expr (pe_callP (ok_check_base T) (hr.mono (by decide)) (by rfl) pass0 (pa_cons (pv 1) pa_nil)))
      (pss_cons (ps_fld (pv 0) (pv 1) rfl)
      (pss_cons (ps_fld (pv 0) (pe_tup pa_nil) rfl)
      (pss_cons (ps_fld (pv 0) (pe_newP (ok_Stack T) (hr.mono (by decide)) (by rfl) pass0 (pa_cons (pv 1) pa_nil)) rfl)
      (pss_one (ps_fld (pv 0) pe_bl rfl)))))), ?_⟩
    refine ⟨_, rfl, b, rfl, b0, b1, ?_⟩
    refine ⟨_, rfl, _, rfl, x, _, dx, _, rfl, hx, T.cl_Road, T.na_Road_base, (show (0 : Nat) < 1000 by decide), ?_⟩
    refine ⟨Nat.zero_le _, fun t ht => ?_⟩
    have nt : t ≠ x := fun z => by
      rw [z, upd_same] at ht
      cases ht
    have hx1 : (upd (upd H x (.ins (He.ga K "Road") dx [("base", .int b)])) t (.tup [])) x = some (.ins (He.ga K "Road") dx [("base", .int b)]) := by
      rw [upd_ne (Ne.symm nt)]
      exact upd_same
    refine ⟨_, rfl, x, _, dx, _, rfl, hx1, T.cl_Road, T.na_Road_steps, (show (1 : Nat) < 1000 by decide), ?_⟩
    have kp1 : ∀ o1 o2, Kp x H (upd (upd (upd H x o1) t (.tup [])) x o2) := fun o1 o2 => Kp.set (Kp.new (Kp.set (Kp.refl x H)) (by rw [upd_ne nt] at ht; rw [upd_ne nt]; exact ht))
    refine ⟨_, rfl, b, [], [], rfl, StkOk.nil b0 b1, .nil, fun q H3 nq s3 st => ?_⟩
    refine ⟨_, rfl, x, _, dx, _, rfl, s3 _ _ upd_same, T.cl_Road, T.na_Road_stack, (show (2 : Nat) < 1000 by decide), ?_⟩
    refine ⟨_, rfl, x, _, dx, _, rfl, upd_same, T.cl_Road, T.na_Road_busy, (show (3 : Nat) < 1000 by decide), ?_⟩
    have ks : Keeps K H3 (upd (upd H3 x (.ins (He.ga K "Road") dx [("base", .int b), ("steps", .ref t), ("stack", .ref q)])) x (.ins (He.ga K "Road") dx (roadFs b t q))) := Keeps.road T.ne_Road_Wrap T.ne_Road_Stack (s3 _ _ upd_same) (Kp.set (Kp.set (Kp.refl x H3)))
    refine k _ t q (Kp.set (Kp.set fun y o n e => s3 _ _ (kp1 _ _ y o n e))) upd_same (ks.tup (s3 _ _ (by rw [upd_ne nt]; exact upd_same))) (st.keeps ks)
  · obtain ⟨b, rfl, b0, b1, k⟩ := h
    have same : Same H (upd (upd H dx (.own x)) x (.ins (He.ga K "Road") dx [])) := fun z o e => by
      rw [upd_ne (ne_of_none e hx), upd_ne (ne_of_none e hdx)]
      exact e
    refine ⟨x, dx, b, rfl, b0, b1, upd_same, fun H' t q kp hx' ht hq => ⟨rfl, ?_⟩⟩
    exact k x H' hx (fun z o e => kp _ _ (ne_of_none e hx) (same _ _ e)) ⟨⟨dx, t, q, [], hx', ht, .nil, hq⟩, .nil, b0, b1, by simp⟩
theorem ok_Road_push (T : Tx w K mg) : PromM P w K mg base CX0 8 "Road" "push" ["self", "wrap"] (spPush K) := by
  refine PromM.of T.cl_Road T.me_Road_push T.dm_Road_push sc_Road_push (fun vs H Q E h => ?_) (fun _ _ _ _ _ _ us hl => match us, hl with | [_, _], _ => rfl) (fun f cdv A outer s H vs Q E hr h => ?_)
  · obtain ⟨r, q, b, ss, a, rfl, _⟩ := h
    rfl
  · obtain ⟨r, q, b, ss, a, rfl, hR, hl, hW, so, k⟩ := h
    refine ⟨_, (pss_cons (ps_expr (pe_callP (ok_check_free T) (hr.mono (by decide)) (by rfl) pass0 (pa_cons (pv 0) pa_nil)))
      (pss_one (ps_expr (pe_callP (ok_add_step T) (hr.mono (by decide)) (by rfl) pass0 (pa_cons (pv 0) (pa_cons (pe_tup (pa_cons pe_str (pa_cons (pv 1) pa_nil))) pa_nil)))))), ?_⟩
    refine ⟨_, rfl, r, b, ss, rfl, hR, _, rfl, _, rfl, (by show 2 ≤ sizeLine; decide), fun t ht => ?_⟩
    have s1 := up (o := .tup [.str "push", .ref q]) ht
    exact ⟨r, t, b, ss, .push a, rfl, hR.same s1, hl, ⟨q, upd_same, hW.same s1⟩, so, fun H' kp hR' => k _ (fun y o n e => kp y o n (s1 _ _ e)) hR'⟩
theorem ok_Road_pop (T : Tx w K mg) : PromM P w K mg base CX0 8 "Road" "pop" ["self"] (spPop K) := by
  refine PromM.of T.cl_Road T.me_Road_pop T.dm_Road_pop sc_Road_pop (fun vs H Q E h => ?_) (fun _ _ _ _ _ _ us hl => match us, hl with | [_], _ => rfl) (fun f cdv A outer s H vs Q E hr h => ?_)
  · obtain ⟨r, b, ss, rfl, _⟩ := h
    rfl
  · obtain ⟨r, b, ss, rfl, hR, hl, ne, k⟩ := h
    refine ⟨_, (pss_cons (ps_expr (pe_callP (ok_check_free T) (hr.mono (by decide)) (by rfl) pass0 (pa_cons (pv 0) pa_nil)))
      (pss_one (ps_expr (pe_callP (ok_add_step T) (hr.mono (by decide)) (by rfl) pass0 (pa_cons (pv 0) (pa_cons (pe_tup (pa_cons pe_str pa_nil)) pa_nil)))))), ?_⟩
    refine ⟨_, rfl, r, b, ss, rfl, hR, _, rfl, (by show 1 ≤ sizeLine; decide), fun t ht => ?_⟩
    have s1 := up (o := .tup [.str "pop"]) ht
    exact ⟨r, t, b, ss, .pop, rfl, hR.same s1, hl, upd_same, ne, fun H' kp hR' => k _ (fun y o n e => kp y o n (s1 _ _ e)) hR'⟩
theorem ok_Road_bound (T : Tx w K mg) : PromM P w K mg base CX0 8 "Road" "bound" ["self", "bound"] (spBound K) := by
  refine PromM.of T.cl_Road T.me_Road_bound T.dm_Road_bound sc_Road_bound (fun vs H Q E h => ?_) (fun _ _ _ _ _ _ us hl => match us, hl with | [_, _], _ => rfl) (fun f cdv A outer s H vs Q E hr h => ?_)
  · obtain ⟨r, b, n, ss, rfl, _⟩ := h
    rfl
  · obtain ⟨r, b, n, ss, rfl, hR, hl, n0, n1, k⟩ := h
    refine ⟨_, (pss_cons (ps_expr (pe_callP (ok_check_free T) (hr.mono (by decide)) (by rfl) pass0 (pa_cons (pv 0) pa_nil)))
      (pss_one (ps_expr (pe_callP (ok_add_step T) (hr.mono (by decide)) (by rfl) pass0 (pa_cons (pv 0) (pa_cons (pe_tup (pa_cons pe_str (pa_cons (pv 1) pa_nil))) pa_nil)))))), ?_⟩
    refine ⟨_, rfl, r, b, ss, rfl, hR, _, rfl, _, rfl, (by show 2 ≤ sizeLine; decide), fun t ht => ?_⟩
    have s1 := up (o := .tup [.str "bound", .int n]) ht
    exact ⟨r, t, b, ss, .bound n, rfl, hR.same s1, hl, upd_same, ⟨n0, n1⟩, fun H' kp hR' => k _ (fun y o n e => kp y o n (s1 _ _ e)) hR'⟩
end
/-! ### the greatest length within a bound -/
def IsG (b : Int) (ws : List Wr) (m k : Int) : Prop := -1 ≤ k ∧ k ≤ m ∧ ∀ n, 0 ≤ n → (grS b ws n ≤ m ↔ n ≤ k)
theorem isG_eq {b : Int} {ws : List Wr} {m k l : Int} (h : IsG b ws m k) (g : IsG b ws m l) : k = l := by
  obtain ⟨h0, h1, h2⟩ := h
  obtain ⟨g0, g1, g2⟩ := g
  by_cases z : k < l
  · have := (h2 l (by omega)).mp ((g2 l (by omega)).mpr (Int.le_refl l))
    omega
  · by_cases y : l < k
    · have := (g2 k (by omega)).mp ((h2 k (by omega)).mpr (Int.le_refl k))
      omega
    · omega
open Classical in
noncomputable def gwI (b : Int) (ws : List Wr) (m : Int) : Int := if h : ∃ k, IsG b ws m k then choose h else 0
theorem gwI_eq {b : Int} {ws : List Wr} {m k : Int} (h : IsG b ws m k) : gwI b ws m = k := by
  have e : ∃ k, IsG b ws m k := ⟨k, h⟩
  unfold gwI
  rw [dif_pos e]
  exact isG_eq (Classical.choose_spec e) h
noncomputable def gwV (b : Int) (ws : List Wr) (m : Int) : V := if gwI b ws m < 0 then .non else .int (gwI b ws m)
def spWithin (K : PySem.W.Frag) : Sp := fun vs H Q _ => ∃ (q : Addr) (b m : Int) (ws : List Wr), vs = [.ref q, .int m] ∧ StkAt K H q b ws ∧ StkOk b ws ∧ 0 ≤ m ∧ m ≤ 10 ^ 60 - 1 ∧ (IsG b ws m (gwI b ws m) → Q (gwV b ws m) H)
section
variable {P : Program} {w : World} {K : PySem.W.Frag} {mg : Str → Option Value} {base : Heap}
theorem ok_greatest_within (T : Tx w K mg) : Prom P w K mg base CX0 5 "greatest_within" s_greatest_within ["stack", "bound"] (spWithin K) := by
  refine Prom.of T.d_greatest_within sc_greatest_within (fun vs H Q E h => ?_) (fun _ _ _ _ _ _ us hl => match us, hl with | [_, _], _ => rfl) (fun f cdv A outer s H vs Q E hr h => ?_)
  · obtain ⟨q, b, m, ws, rfl, _⟩ := h
    rfl
  · obtain ⟨q, b, m, ws, rfl, hS, so, m0, m1, k⟩ := h
    obtain ⟨dx, t, xs, g1, g2, g3⟩ := id hS
    have small : ∀ n : Int, n ≤ m → n < 2 ^ 1000 := fun n hn => Int.lt_of_le_of_lt (show n ≤ 10 ^ 60 - 1 by omega) (by decide)
    refine ⟨_, (pss_cons (ps_if (pt_cmp (pc_gt (pe_methP (ok_Stack_grown T) (hr.mono (by decide)) pass0 (pv 0) (pa_cons pe_int pa_nil)) (pv 1))) (pss_one (ps_ret pe_non)) pss_nil)
      (pss_cons (ps_par (i := 2) (j := 3) (by rfl) sc_greatest_within.nd rfl rfl (by decide) rfl rfl (pa_cons pe_int (pa_cons (pe_op op_add (pv 1) pe_int) pa_nil)) (by rfl))
      (pss_cons (ps_while PassesOwn.never (pt_cmp (pc_gt (pe_op op_sub (pv 3) (pv 2)) pe_int)) (pss_cons (ps_set (i := 4) sc_greatest_within.nd rfl (Or.inl rfl) (pe_op op_fdiv (pe_op op_add (pv 2) (pv 3)) pe_int))
      (pss_one (ps_if (pt_cmp (pc_le (pe_methP (ok_Stack_grown T) (hr.mono (by decide)) pass0 (pv 0) (pa_cons (pv 4) pa_nil)) (pv 1))) (pss_one (ps_set (i := 2) sc_greatest_within.nd rfl (Or.inl rfl) (pv 4))) (pss_one (ps_set (i := 3) sc_greatest_within.nd rfl (Or.inl rfl) (pv 4)))))))
      (pss_one (ps_ret (pv 2)))))), ?_⟩
    refine ⟨_, rfl, q, dx, _, rfl, g1, rfl, q, b, ws, 0, rfl, hS, so, by decide, by decide, _, rfl, _, _, rfl, rfl, _, rfl, ifd (fun c => ?_) (fun c => ?_)⟩
    · have c : grS b ws 0 > m := c
      have ig : IsG b ws m (-1) := ⟨by omega, by omega, fun n hn => by
        have := grS_mono so.b0 ws so.ok (n := 0) (k := n) (by omega) hn
        omega⟩
      have e := gwI_eq ig
      have k2 := k (by rw [e]; exact ig)
      unfold gwV at k2
      rw [e, if_pos (by decide)] at k2
      exact k2
    · have c : ¬ grS b ws 0 > m := c
      refine ⟨_, rfl, _, _, rfl, rfl, _, _, rfl, ?_⟩
      refine ⟨fun mm σ H1 => H1 = H ∧ ∃ (lo hi : Int) (v : Option V), 0 ≤ lo ∧ lo < hi ∧ hi ≤ m + 1 ∧ grS b ws lo ≤ m ∧ (hi = m + 1 ∨ m < grS b ws hi) ∧ mm = (hi - lo).toNat ∧ σ = [some (.ref q), some (.int m), some (.int lo), some (.int hi), v],
        ⟨_, rfl, 0, m + 1, none, by omega, by omega, by omega, by omega, .inl rfl, rfl, rfl⟩, ?_⟩
      rintro mm σ H1 ⟨rfl, lo, hi, v, l0, l1, l2, l3, l4, rfl, rfl⟩
      refine ⟨_, rfl, _, rfl, _, _, rfl, rfl, _, _, rfl, rfl, _, rfl, ifd (fun z => ?_) (fun z => ?_)⟩
      · have z : hi - lo > 1 := z
        refine ⟨_, fun σ' H' h => h, ?_⟩
        refine ⟨_, rfl, _, rfl, _, _, rfl, rfl, _, _, rfl, rfl, ⟨by decide, by decide⟩, ?_⟩
        refine ⟨_, rfl, q, dx, _, rfl, g1, rfl, _, rfl, q, b, ws, (lo + hi) / 2, rfl, hS, so, by omega, small _ (by omega), _, rfl, _, _, rfl, rfl, _, rfl, ifd (fun y => ?_) (fun y => ?_)⟩
        · exact ⟨_, rfl, _, by omega, rfl, (lo + hi) / 2, hi, _, by omega, by omega, l2, y, l4, rfl, rfl⟩
        · have y : ¬ grS b ws ((lo + hi) / 2) ≤ m := y
          exact ⟨_, rfl, _, by omega, rfl, lo, (lo + hi) / 2, _, l0, by omega, by omega, l3, .inr (by omega), rfl, rfl⟩
      · have z : ¬ hi - lo > 1 := z
        have ig : IsG b ws m lo := ⟨by omega, by omega, fun n hn => ⟨fun y => ?_, fun y => ?_⟩⟩
        · have e := gwI_eq ig
          have k2 := k (by rw [e]; exact ig)
          unfold gwV at k2
          rw [e, if_neg (by omega)] at k2
          exact ⟨_, rfl, k2⟩
        · by_cases u : n ≤ lo
          · exact u
          · exfalso
            rcases l4 with l4 | l4
            · have := grS_ge so.b0 ws so.ok hn
              omega
            · have := grS_mono so.b0 ws so.ok (n := hi) (k := n) (by omega) (by omega)
              omega
        · have := grS_mono so.b0 ws so.ok (n := n) (k := lo) hn y
          omega
end
def spAlong (K : PySem.W.Frag) : Sp := fun vs H Q _ => ∃ (t : Addr) (xs : List V) (ss : List Stp) (n b : Int), vs = [.int b, .ref t, .int n] ∧ H t = some (.tup xs) ∧ StepsAt K H xs ss ∧ RoadB b ss ∧ ss.length ≤ 1000 ∧ 2 ≤ b ∧ b ≤ 256 ∧ 0 ≤ n ∧ n ≤ 10 ^ 60 - 1 ∧ ∀ q H', H q = none → Same H H' → H' q = some (.lst ((trailL b ss n (ss.length + 1)).map V.int)) → Q (.ref q) H'
def spRSizes (K : PySem.W.Frag) : Sp := fun vs H Q _ => ∃ (r : Addr) (ss : List Stp) (n b : Int), vs = [.ref r, .int n] ∧ RoadAt K H r b ss ∧ 0 ≤ n ∧ n ≤ 10 ^ 60 - 1 ∧ ∀ q H', H q = none → Same H H' → H' q = some (.tup ((trailL b ss n (ss.length + 1)).map V.int)) → Q (.ref q) H'
def spFits (K : PySem.W.Frag) : Sp := fun vs H Q _ => ∃ (r : Addr) (ss : List Stp) (n b : Int), vs = [.ref r, .int n] ∧ RoadAt K H r b ss ∧ 0 ≤ n ∧ n ≤ 10 ^ 60 - 1 ∧ ∀ v H', (v = true ↔ fitsP b ss n) → Same H H' → Q (.bl v) H'
section
variable {P : Program} {w : World} {K : PySem.W.Frag} {mg : Str → Option Value} {base : Heap}
theorem ok_sizes_along (T : Tx w K mg) : Prom P w K mg base CX0 4 "sizes_along" s_sizes_along ["base", "steps", "length"] (spAlong K) := by
  refine Prom.of T.d_sizes_along sc_sizes_along (fun vs H Q E h => ?_) (fun _ _ _ _ _ _ us hl => match us, hl with | [_, _, _], _ => rfl) (fun f cdv A outer s H vs Q E hr h => ?_)
  · obtain ⟨t, xs, ss, n, b, rfl, _⟩ := h
    rfl
  · obtain ⟨t, xs, ss, n, b, rfl, ht, hm, rb, len, b0, b1, n0, n1, k⟩ := h
    refine ⟨_, (pss_cons (ps_par (i := 3) (j := 4) (by rfl) sc_sizes_along.nd rfl rfl (by decide) rfl rfl (pa_cons (pe_lst (pa_cons (pv 2) pa_nil)) (pa_cons (pe_lst pa_nil) pa_nil)) (by rfl))
      (pss_cons (ps_for PassesOwn.never (by rfl) (pi_tup (pv 1)) (pg_name (i := 5) sc_sizes_along.nd rfl (Or.inl rfl)) (pss_cons (ps_set (i := 6) sc_sizes_along.nd rfl (Or.inl rfl) (pe_ix ix_list (pv 3) (pe_un un_neg pe_int) (fun _ _ => rfl)))
      (pss_cons (ps_if (pt_cmpR op_eq (pe_ix ix_tup (pv 5) pe_int (fun _ _ => rfl)) pe_str (nomark _)) (pss_cons (ps_expr (pe_bm PySem.F.plainAttrs_list PySem.F.slot_list_append PySem.F.type_list_append mt_append (pv 4) (pa_cons (pv 6) pa_nil)))
      (pss_one (ps_set (i := 6) sc_sizes_along.nd rfl (Or.inl rfl) (pe_methP (ok_Wrap_grown T) (hr.mono (by decide)) pass0 (pe_ix ix_tup (pv 5) pe_int (fun _ _ => rfl)) (pa_cons (pv 6) (pa_cons (pv 0) pa_nil)))))) (pss_one (ps_if (pt_cmpR op_eq (pe_ix ix_tup (pv 5) pe_int (fun _ _ => rfl)) pe_str (nomark _)) (pss_one (ps_set (i := 6) sc_sizes_along.nd rfl (Or.inl rfl) (pe_bm0 PySem.F.plainAttrs_list PySem.F.slot_list_pop PySem.F.type_list_pop mt_pop (pv 4)))) pss_nil)))
      (pss_one (ps_expr (pe_bm PySem.F.plainAttrs_list PySem.F.slot_list_append PySem.F.type_list_append mt_append (pv 3) (pa_cons (pv 6) pa_nil)))))))
      (pss_one (ps_ret (pv 3))))), ?_⟩
    refine ⟨_, rfl, (by show 1 ≤ sizeLine; decide), fun lf hlf => ⟨Nat.zero_le _, fun li hli => ⟨_, _, rfl, ?_⟩⟩⟩
    have nfi : lf ≠ li := ne_of_none upd_same hli
    have nli : H li = none := same_before (up hlf) hli
    refine ⟨_, rfl, t, rfl, ⟨_, SqT.of (up hli _ _ (up hlf _ _ ht))⟩, for_it (walk_tup (K := K) (a := t) (xs := xs)) (fun i σ H' => Same H H' ∧ ∃ (v1 v2 : Option V), H' lf = some (.lst ((trailL b ss n (i + 1)).map V.int)) ∧ H' li = some (.lst ((trS b (ss.take i) n).2.map V.int)) ∧ σ = [some (.int b), some (.ref t), some (.int n), some (.ref lf), some (.ref li), v1, v2])
      ⟨(up hlf).trans (up hli), none, none, up hli _ _ upd_same, upd_same, rfl⟩ (fun _ _ H' _ h => SqT.of (h.1 _ _ ht)) ?_ ?_⟩
    · rintro i x σ H0 H' hi ⟨hs, v1, v2, hf, hn, rfl⟩ ⟨rfl, hx⟩
      obtain ⟨q, st, rfl, hq, mv⟩ := hm.get hx
      have hil : i < ss.length := (List.getElem?_eq_some_iff.mp hq).1
      have et : ss.take (i + 1) = ss.take i ++ [st] := by
        rw [List.take_succ, hq]
        rfl
      have sok := rb.at_ hq
      have so := (rb.take i).stk b0 b1
      have e0 := trS_on (rb.take i) n
      have so6 := so.len
      have n2 : n < 2 ^ 200 := Int.lt_of_le_of_lt n1 (by decide)
      have bd := grS_pow b0 (onL (ss.take i)) so.ok (show 12 ≤ 200 by decide) n0 n2
      have c0 : 0 ≤ (trS b (ss.take i) n).1 := by
        rw [e0]
        exact bd.1
      have c1 : (trS b (ss.take i) n).1 < 2 ^ 3000 := by
        rw [e0]
        exact Int.lt_of_lt_of_le bd.2 (pow_mono (by decide) (by omega))
      have il : (trS b (ss.take i) n).2.length = (onL (ss.take i)).length := by
        rw [e0]
        exact inner_len _ _ _
      have mv := mv.keeps (.same hs)
      have et2 : trS b (ss.take (i + 1)) n = goT b (trS b (ss.take i) n) st := by rw [et, trS_snoc]
      have ef : (trailL b ss n (i + 1)).map V.int = (trailL b ss n i).map V.int ++ [.int (trS b (ss.take i) n).1] := by
        rw [trailL_succ, List.map_append]
        rfl
      refine ⟨_, rfl, _, rfl, lf, _, _, .int (trS b (ss.take i) n).1, rfl, rfl, SqL.of hf, by rw [ef]; exact atI_last1, ?_⟩
      rw [trailL_succ, et2]
      generalize trS b (ss.take i) n = z at c0 c1 il hn et2 ⊢
      have small : (trailL b ss n (i + 1)).length < sizeLine := by
        rw [trailL_len, sizeLine_eq]
        omega
      cases st with
      | push a =>
        obtain ⟨u, h1, h2⟩ := mv
        have ks : Keeps K H' (upd H' li (.lst (z.2.map V.int ++ [.int z.1]))) := .lst hn
        have aok : a.ok := sok.ok a (by simp)
        obtain ⟨du, pu, u1, u2⟩ := id (h2.keeps ks)
        refine ⟨_, rfl, q, _, _, _, rfl, rfl, SqT.of h1, rfl, rfl, _, rfl, ifd_pos rfl ?_⟩
        refine ⟨_, rfl, .inl ⟨rfl, _, SqL.of hn⟩, _, rfl, li, _, _, rfl, rfl, hn, ?_, ?_⟩
        · rw [List.length_map, il, sizeLine_eq]
          omega
        refine ⟨_, rfl, q, _, _, _, rfl, rfl, SqT.of (ks.tup h1), rfl, u, du, _, rfl, u1, rfl, _, rfl, _, rfl, a, u, z.1, b, rfl, h2.keeps ks, aok, b0, b1, c0, c1, ?_⟩
        have hf3 : (upd H' li (.lst (z.2.map V.int ++ [.int z.1]))) lf = some (.lst ((trailL b ss n (i + 1)).map V.int)) := by rw [upd_ne nfi]; exact hf
        refine ⟨_, rfl, .inl ⟨rfl, _, SqL.of hf3⟩, _, rfl, lf, _, _, rfl, rfl, hf3, by rw [List.length_map]; exact small, ?_⟩
        refine ⟨fun y o e => ?_, _, _, ?_, ?_, rfl⟩
        · rw [upd_ne (ne_of_none e hlf), upd_ne (ne_of_none e nli)]
          exact hs _ _ e
        · rw [upd_same, List.map_append]
          rfl
        · rw [upd_ne (Ne.symm nfi), upd_same]
          show _ = some (HO.lst ((z.2 ++ [z.1]).map V.int))
          rw [List.map_append]
          rfl
      | pop =>
        have h1 : H' q = _ := mv
        have ne : onL (ss.take i) ≠ [] := sok
        have zl : 0 < z.2.length := by
          have : (onL (ss.take i)).length ≠ 0 := fun y => ne (List.eq_nil_of_length_eq_zero y)
          omega
        refine ⟨_, rfl, q, _, _, _, rfl, rfl, SqT.of h1, rfl, rfl, _, rfl, ifs_neg (show ("pop" : Str) ≠ "push" by decide) ?_⟩
        refine ⟨_, rfl, q, _, _, _, rfl, rfl, SqT.of h1, rfl, rfl, _, rfl, ifd_pos rfl ?_⟩
        have eg : z.2.getLast?.getD 0 = z.2[z.2.length - 1]'(by omega) := by
          rw [List.getLast?_eq_getElem?, List.getElem?_eq_getElem (by omega)]
          rfl
        refine ⟨_, rfl, .inl ⟨rfl, _, SqL.of hn⟩, li, _, .int (z.2.getLast?.getD 0), rfl, rfl, hn, ?_, ?_⟩
        · rw [List.length_map, List.getElem?_map, List.getElem?_eq_getElem (by omega), eg]
          rfl
        have hf3 : (upd H' li (.lst (z.2.map V.int).dropLast)) lf = some (.lst ((trailL b ss n (i + 1)).map V.int)) := by rw [upd_ne nfi]; exact hf
        refine ⟨_, rfl, .inl ⟨rfl, _, SqL.of hf3⟩, _, rfl, lf, _, _, rfl, rfl, hf3, by rw [List.length_map]; exact small, ?_⟩
        refine ⟨fun y o e => ?_, _, _, ?_, ?_, rfl⟩
        · rw [upd_ne (ne_of_none e hlf), upd_ne (ne_of_none e nli)]
          exact hs _ _ e
        · rw [upd_same, List.map_append]
          rfl
        · rw [upd_ne (Ne.symm nfi), upd_same]
          show some (HO.lst (z.2.map V.int).dropLast) = some (HO.lst (z.2.dropLast.map V.int))
          rw [List.map_dropLast]
      | bound y =>
        have h1 : H' q = _ := mv
        refine ⟨_, rfl, q, _, _, _, rfl, rfl, SqT.of h1, rfl, rfl, _, rfl, ifs_neg (show ("bound" : Str) ≠ "push" by decide) ?_⟩
        refine ⟨_, rfl, q, _, _, _, rfl, rfl, SqT.of h1, rfl, rfl, _, rfl, ifs_neg (show ("bound" : Str) ≠ "pop" by decide) ?_⟩
        refine ⟨_, rfl, .inl ⟨rfl, _, SqL.of hf⟩, _, rfl, lf, _, _, rfl, rfl, hf, by rw [List.length_map]; exact small, ?_⟩
        refine ⟨fun y o e => ?_, _, _, ?_, ?_, rfl⟩
        · rw [upd_ne (ne_of_none e hlf)]
          exact hs _ _ e
        · rw [upd_same, List.map_append]
          rfl
        · rw [upd_ne (Ne.symm nfi)]
          exact hn
    · rintro σ H' ⟨hs, v1, v2, hf, hn, rfl⟩
      rw [hm.len] at hf
      exact ⟨_, rfl, k lf H' hlf hs hf⟩
theorem ok_Road_sizes (T : Tx w K mg) : PromM P w K mg base CX0 5 "Road" "sizes" ["self", "length"] (spRSizes K) := by
  refine PromM.of T.cl_Road T.me_Road_sizes T.dm_Road_sizes sc_Road_sizes (fun vs H Q E h => ?_) (fun _ _ _ _ _ _ us hl => match us, hl with | [_, _], _ => rfl) (fun f cdv A outer s H vs Q E hr h => ?_)
  · obtain ⟨r, ss, n, b, rfl, _⟩ := h
    rfl
  · obtain ⟨r, ss, n, b, rfl, hR, n0, n1, k⟩ := h
    obtain ⟨dx, t, q, xs, h1, h2, h3, h4⟩ := hR.at_
    refine ⟨_, (pss_cons (ps_expr (pe_callP (ok_check_length T) (hr.mono (by decide)) (by rfl) pass0 (pa_cons (pv 1) pa_nil)))
      (pss_one (ps_ret (pe_callTy call_tuple_of (by rfl) T.b_tuple (by decide +kernel) (pa_cons (pe_callP (ok_sizes_along T) (hr.mono (by decide)) (by rfl) pass0 (pa_cons (pe_fld (pv 0) rfl) (pa_cons (pe_fld (pv 0) rfl) (pa_cons (pv 1) pa_nil)))) pa_nil))))), ?_⟩
    refine ⟨_, rfl, n, rfl, n0, n1, ?_⟩
    refine ⟨_, rfl, r, _, dx, _, _, rfl, h1, T.cl_Road, T.na_Road_base, rfl, _, rfl, r, _, dx, _, _, rfl, h1, T.cl_Road, T.na_Road_steps, rfl, _, rfl, t, xs, ss, n, b, rfl, h2, h3, hR.rb, hR.len, hR.b0, hR.b1, n0, n1, fun l H1 nl s1 hl => ?_⟩
    exact ⟨l, _, rfl, .inl ⟨SqL.of hl, fun t2 ht2 => k t2 _ (same_before s1 ht2) (s1.trans (up ht2)) upd_same⟩⟩
theorem ok_Road_fits (T : Tx w K mg) : PromM P w K mg base CX0 6 "Road" "fits" ["self", "length"] (spFits K) := by
  refine PromM.of T.cl_Road T.me_Road_fits T.dm_Road_fits sc_Road_fits (fun vs H Q E h => ?_) (fun _ _ _ _ _ _ us hl => match us, hl with | [_, _], _ => rfl) (fun f cdv A outer s H vs Q E hr h => ?_)
  · obtain ⟨r, ss, n, b, rfl, _⟩ := h
    rfl
  · obtain ⟨r, ss, n, b, rfl, hR, n0, n1, k⟩ := h
    obtain ⟨dx, t, q, xs, h1, h2, h3, h4⟩ := hR.at_
    have hlx := h3.len
    refine ⟨_, (pss_cons (ps_set (i := 2) sc_Road_fits.nd rfl (Or.inl rfl) (pe_methP (ok_Road_sizes T) (hr.mono (by decide)) pass0 (pv 0) (pa_cons (pv 1) pa_nil)))
      (pss_one (ps_ret (pe_callB (cr_all rfl) (by rfl) T.b_all (by decide +kernel) (pa_cons (pe_lc (own := [("size", 3), ("step", 4)]) (g := (gTup K 2 (gCons (gName 3) (gCons (gName 4) gNil)))) (by rfl) sc_Road_fits.nd (RZ.pi_zipA (by rfl) T.b_zip (pa_cons (pv 2) (pa_cons (pe_fld (pv 0) rfl) pa_nil))) (blkOk_by (own := [("size", 3), ("step", 4)]) (N := ["self", "length", "sizes", "size", "step"]) (sc := defScope s_Road_fits) (by decide +kernel)) (fun _ _ _ _ _ => (pg_tup rfl (pgs_cons (pg_name (i := 3) sc_Road_fits.nd rfl (Or.inl rfl)) (pgs_cons (pg_name (i := 4) sc_Road_fits.nd rfl (Or.inl rfl)) pgs_nil)))) (fun _ _ _ _ _ => pts_one (pt_cmpR op_eq (pe_ix (show IxR _ (rIxT K) from ix_tup) (pv 4) pe_int (fun _ _ => rfl)) pe_str (nomark _))) (fun _ _ _ _ _ => (pe_cmpR op_le (pv 3) (pe_ix (show IxR _ (rIxT K) from ix_tup) (pv 4) pe_int (fun _ _ => rfl)) (nomark _)))) pa_nil))))), ?_⟩
    refine ⟨_, rfl, r, dx, _, rfl, h1, rfl, _, rfl, r, ss, n, b, rfl, hR, n0, n1, fun t1 H1 nt1 s1 ht1 => ?_⟩
    refine ⟨_, rfl, _, rfl, r, _, dx, _, _, rfl, s1 _ _ h1, T.cl_Road, T.na_Road_steps, rfl, t1, t, _, xs, rfl, .inr ⟨SqT.of ht1, SqT.of (s1 _ _ h2), fun D hD => ?_⟩⟩
    have hn : ss.length = min ((trailL b ss n (ss.length + 1)).map V.int).length xs.length := by
      rw [List.length_map, trailL_len]
      omega
    refine lc_it (walk_zipT (K := K) (a := t1) (b := t) (n := ss.length) hn) (fun i H' => Same H1 H' ∧ ∃ bs : List Bool, H' D = some (.lst (bs.map V.bl)) ∧ bs.length ≤ i ∧ (bs.all id = true ↔ fitsP b (ss.take i) n)) ⟨up hD, [], upd_same, by simp, by simp; intro i m e; simp at e⟩ (fun i H' _ h => ⟨SqT.of (h.1 _ _ ht1), SqT.of (h.1 _ _ (s1 _ _ h2))⟩) ?_ ?_
    · rintro i x H2 H3 hi ⟨hs, bs, hb, bl, bf⟩ ⟨T2, x1, x2, rfl, hT2, rfl, e1, e2⟩
      have len := hR.len
      obtain ⟨u, st, rfl, hst, hu⟩ := h3.get e2
      have et : ss.take (i + 1) = ss.take i ++ [st] := by
        rw [List.take_succ, hst]
        rfl
      have ez : x1 = .int (grS b (onL (ss.take i)) n) := by
        have e1 : ((trailL b ss n (ss.length + 1)).map V.int)[i]? = some x1 := e1
        rw [List.getElem?_map, trailL_at (by omega), trS_on (hR.rb.take i) n] at e1
        exact (Option.some.inj e1).symm
      subst ez
      have s2 := hs.trans (up (o := .tup [.int (grS b (onL (ss.take i)) n), .ref u]) hT2)
      have hb2 := up (o := .tup [.int (grS b (onL (ss.take i)) n), .ref u]) hT2 _ _ hb
      have hu := hu.keeps (.same (s1.trans s2))
      refine ⟨T2, _, rfl, SqT.of upd_same, rfl, _, _, rfl, _, _, rfl, rfl, rfl, ?_⟩
      generalize (upd H2 T2 (.tup [.int (grS b (onL (ss.take i)) n), .ref u])) = H4 at s2 hb2 hu ⊢
      have small : (bs.map V.bl).length < sizeLine := by
        rw [List.length_map, sizeLine_eq]
        omega
      rw [et]
      cases st with
      | push a =>
        obtain ⟨y, g1, g2⟩ := hu
        refine ⟨_, rfl, u, _, _, _, rfl, rfl, SqT.of g1, rfl, rfl, _, rfl, ifs_neg (show ("push" : Str) ≠ "bound" by decide) ?_⟩
        exact ⟨s2, bs, hb2, by omega, by rw [fits_snoc, bf]; exact ⟨fun h => ⟨h, fun m e => by cases e⟩, fun h => h.1⟩⟩
      | pop =>
        have g1 : H4 u = _ := hu
        refine ⟨_, rfl, u, _, _, _, rfl, rfl, SqT.of g1, rfl, rfl, _, rfl, ifs_neg (show ("pop" : Str) ≠ "bound" by decide) ?_⟩
        exact ⟨s2, bs, hb2, by omega, by rw [fits_snoc, bf]; exact ⟨fun h => ⟨h, fun m e => by cases e⟩, fun h => h.1⟩⟩
      | bound m =>
        have g1 : H4 u = _ := hu
        refine ⟨_, rfl, u, _, _, _, rfl, rfl, SqT.of g1, rfl, rfl, _, rfl, ifd_pos rfl ?_⟩
        refine ⟨_, rfl, _, rfl, u, _, _, _, rfl, rfl, SqT.of g1, rfl, _, _, rfl, rfl, _, hb2, small, fun y o e => ?_, bs ++ [decide (grS b (onL (ss.take i)) n ≤ m)], ?_, ?_, ?_⟩
        · rw [upd_ne (ne_of_none e hD)]
          exact s2 _ _ e
        · rw [upd_same, List.map_append]
          rfl
        · rw [List.length_append]
          simp
          omega
        · rw [fits_snoc, ← bf, List.all_append]
          simp
    · rintro H2 ⟨hs, bs, hb, bl, bf⟩
      rw [List.take_length] at bf
      exact ⟨D, bs, rfl, SqL.of hb, k _ _ bf (s1.trans hs)⟩
end
theorem cut_to {xs : List V} {i : Nat} (h : i ≤ xs.length) : cutV xs none (some (i : Int)) = xs.take i := by
  unfold cutV
  rw [HT.sIx_none, HT.sIx_nat]
  simp [Nat.min_eq_left h]
theorem cut_from {xs : List V} {i : Nat} (h : i ≤ xs.length) : cutV xs (some (i : Int)) none = xs.drop i := by
  unfold cutV
  rw [HT.sIx_none, HT.sIx_nat, Nat.min_eq_left h]
  exact List.take_of_length_le (by rw [List.length_drop]; exact Nat.le_refl _)
inductive PairsAt (H : Hp) : List V → List (Int × Int) → Prop where
  | nil : PairsAt H [] []
  | cons {p : Addr} {a : Int × Int} {xs : List V} {ws : List (Int × Int)} (h : H p = some (.tup [.int a.1, .int a.2])) (r : PairsAt H xs ws) : PairsAt H (.ref p :: xs) (a :: ws)
theorem PairsAt.len {H : Hp} {xs : List V} {ws : List (Int × Int)} (h : PairsAt H xs ws) : xs.length = ws.length := by
  induction h with
  | nil => rfl
  | cons _ _ ih => exact congrArg (· + 1) ih
theorem PairsAt.get {H : Hp} {xs : List V} {ws : List (Int × Int)} (h : PairsAt H xs ws) : ∀ {i : Nat} {x : V}, xs[i]? = some x → ∃ (p : Addr) (a : Int × Int), x = .ref p ∧ ws[i]? = some a ∧ H p = some (.tup [.int a.1, .int a.2]) := by
  induction h with
  | nil =>
    intro i x e
    simp at e
  | cons h _ ih =>
    intro i x e
    cases i with
    | zero =>
      simp at e
      exact ⟨_, _, e.symm, rfl, h⟩
    | succ i => exact ih (by simpa using e)
theorem PairsAt.same {H H' : Hp} {xs : List V} {ws : List (Int × Int)} (h : PairsAt H xs ws) (s : Same H H') : PairsAt H' xs ws := by
  induction h with
  | nil => exact .nil
  | cons h _ ih => exact .cons (s _ _ h) ih
theorem PairsAt.snoc {H : Hp} {xs : List V} {ws : List (Int × Int)} {p : Addr} {a : Int × Int} (h : PairsAt H xs ws) (hx : H p = some (.tup [.int a.1, .int a.2])) : PairsAt H (xs ++ [.ref p]) (ws ++ [a]) := by
  induction h with
  | nil => exact .cons hx .nil
  | cons h _ ih => exact .cons h ih
theorem PairsAt.put {H : Hp} {l : Addr} {xs : List V} {ys zs : List V} {ws : List (Int × Int)} (h : PairsAt H xs ws) (hl : H l = some (.lst ys)) : PairsAt (upd H l (.lst zs)) xs ws := by
  induction h with
  | nil => exact .nil
  | @cons q a xs ws h _ ih =>
    refine .cons ?_ ih
    rw [upd_ne (fun z => by rw [z, hl] at h; cases h)]
    exact h
/-- each bound's place and the greatest length that it lets through -/
noncomputable def reachAt (b : Int) (ss : List Stp) (i : Nat) : Option (Int × Int) := match ss[i]? with
  | some (.bound m) => some ((i : Nat), gwI b (onL (ss.take i)) m)
  | _ => none
noncomputable def reachL (b : Int) (ss : List Stp) (k : Nat) : List (Int × Int) := (List.range k).filterMap (reachAt b ss)
theorem reachL_succ (b : Int) (ss : List Stp) (k : Nat) : reachL b ss (k + 1) = reachL b ss k ++ (reachAt b ss k).toList := by
  unfold reachL
  rw [List.range_succ, List.filterMap_append]
  cases e : reachAt b ss k <;> simp [e]
theorem reachL_len (b : Int) (ss : List Stp) : ∀ k : Nat, (reachL b ss k).length ≤ k
  | 0 => Nat.le_refl _
  | k + 1 => by
    rw [reachL_succ, List.length_append]
    have := reachL_len b ss k
    cases reachAt b ss k <;> simp <;> omega
def leastL (ps : List (Int × Int)) : Int := (ps.map (·.2)).foldl (fun x y => if y < x then y else x) (10 ^ 60 - 1)
theorem least_fold : ∀ (ns : List Int) (x : Int), (ns.foldl (fun x y => if y < x then y else x) x ≤ x) ∧ (∀ n ∈ ns, ns.foldl (fun x y => if y < x then y else x) x ≤ n) ∧ (ns.foldl (fun x y => if y < x then y else x) x = x ∨ ns.foldl (fun x y => if y < x then y else x) x ∈ ns)
  | [], x => ⟨Int.le_refl x, fun n h => absurd h (by simp), .inl rfl⟩
  | y :: ns, x => by
    obtain ⟨h1, h2, h3⟩ := least_fold ns (if y < x then y else x)
    have e : (y :: ns).foldl (fun x y => if y < x then y else x) x = ns.foldl (fun x y => if y < x then y else x) (if y < x then y else x) := rfl
    rw [e]
    have l1 : (if y < x then y else x) ≤ x := by split <;> omega
    have l2 : (if y < x then y else x) ≤ y := by split <;> omega
    refine ⟨Int.le_trans h1 l1, fun n hn => ?_, ?_⟩
    · rcases List.mem_cons.mp hn with rfl | hn
      · exact Int.le_trans h1 l2
      · exact h2 n hn
    · rcases h3 with h3 | h3
      · rw [h3]
        by_cases z : y < x
        · rw [if_pos z]
          exact .inr (List.mem_cons_self ..)
        · rw [if_neg z]
          exact .inl rfl
      · exact .inr (List.mem_cons_of_mem _ h3)
theorem leastL_eq {ps : List (Int × Int)} {m : Int} (h1 : m ∈ (10 ^ 60 - 1) :: ps.map (·.2)) (h2 : ∀ x ∈ (10 ^ 60 - 1) :: ps.map (·.2), m ≤ x) : m = leastL ps := by
  obtain ⟨g1, g2, g3⟩ := least_fold (ps.map (·.2)) (10 ^ 60 - 1)
  have a : m ≤ leastL ps := by
    refine h2 _ ?_
    rcases g3 with g3 | g3
    · unfold leastL
      rw [g3]
      exact List.mem_cons_self ..
    · exact List.mem_cons_of_mem _ g3
  have b : leastL ps ≤ m := by
    rcases List.mem_cons.mp h1 with h | h
    · rw [h]
      exact g1
    · exact g2 _ h
  omega
def LAST : Int := 10 ^ 60 - 1
/-- what fits -/
theorem least_fits {b : Int} {ss : List Stp} (hg : ∀ i m, ss[i]? = some (.bound m) → IsG b (onL (ss.take i)) m (gwI b (onL (ss.take i)) m)) {n : Int} (n0 : 0 ≤ n) (n1 : n ≤ 10 ^ 60 - 1) : fitsP b ss n ↔ n ≤ leastL (reachL b ss ss.length) := by
  obtain ⟨g1, g2, g3⟩ := least_fold ((reachL b ss ss.length).map (·.2)) (10 ^ 60 - 1)
  have mem : ∀ x, x ∈ (reachL b ss ss.length).map (·.2) ↔ ∃ i m, ss[i]? = some (.bound m) ∧ x = gwI b (onL (ss.take i)) m := fun x => by
    unfold reachL
    rw [List.mem_map]
    constructor
    · rintro ⟨p, hp, rfl⟩
      obtain ⟨i, hi, e⟩ := List.mem_filterMap.mp hp
      unfold reachAt at e
      cases es : ss[i]? with
      | none => rw [es] at e; cases e
      | some s =>
        rw [es] at e
        cases s with
        | bound m =>
          refine ⟨i, m, es, ?_⟩
          have e := Option.some.inj e
          rw [← e]
        | push a => cases e
        | pop => cases e
    · rintro ⟨i, m, es, rfl⟩
      refine ⟨((i : Nat), gwI b (onL (ss.take i)) m), List.mem_filterMap.mpr ⟨i, List.mem_range.mpr (List.getElem?_eq_some_iff.mp es).1, ?_⟩, rfl⟩
      unfold reachAt
      rw [es]
  constructor
  · intro h
    show n ≤ leastL _
    rcases g3 with g3 | g3
    · unfold leastL
      rw [g3]
      exact n1
    · obtain ⟨i, m, es, e⟩ := (mem _).mp g3
      have := ((hg i m es).2.2 n n0).mp (h i m es)
      unfold leastL
      rw [e]
      exact this
  · intro h i m es
    have := g2 _ ((mem _).mpr ⟨i, m, es, rfl⟩)
    exact ((hg i m es).2.2 n n0).mpr (Int.le_trans h this)
theorem least_range {b : Int} {ss : List Stp} (hg : ∀ i m, ss[i]? = some (.bound m) → IsG b (onL (ss.take i)) m (gwI b (onL (ss.take i)) m)) : -1 ≤ leastL (reachL b ss ss.length) ∧ leastL (reachL b ss ss.length) ≤ 10 ^ 60 - 1 := by
  obtain ⟨g1, g2, g3⟩ := least_fold ((reachL b ss ss.length).map (·.2)) (10 ^ 60 - 1)
  refine ⟨?_, g1⟩
  rcases g3 with g3 | g3
  · unfold leastL
    rw [g3]
    decide
  · unfold leastL
    generalize ((reachL b ss ss.length).map (·.2)).foldl (fun x y => if y < x then y else x) (10 ^ 60 - 1) = z at g3 ⊢
    obtain ⟨p, hp, rfl⟩ := List.mem_map.mp g3
    obtain ⟨i, hi, e⟩ := List.mem_filterMap.mp hp
    unfold reachAt at e
    cases es : ss[i]? with
    | none => rw [es] at e; cases e
    | some s =>
      rw [es] at e
      cases s with
      | bound m =>
        have e := Option.some.inj e
        rw [← e]
        exact (hg i m es).1
      | push a => cases e
      | pop => cases e
def AllG (b : Int) (ss : List Stp) : Prop := ∀ i m, ss[i]? = some (.bound m) → IsG b (onL (ss.take i)) m (gwI b (onL (ss.take i)) m)
def spReaches (K : PySem.W.Frag) : Sp := fun vs H Q _ => ∃ (t : Addr) (xs : List V) (ss : List Stp) (b : Int), vs = [.int b, .ref t] ∧ H t = some (.tup xs) ∧ StepsAt K H xs ss ∧ RoadB b ss ∧ ss.length ≤ 1000 ∧ 2 ≤ b ∧ b ≤ 256 ∧ ∀ q ys H', H q = none → AllG b ss → Same H H' → H' q = some (.lst ys) → PairsAt H' ys (reachL b ss ss.length) → Q (.ref q) H'
def spLeast : Sp := fun vs H Q _ => ∃ (l : Addr) (ys : List V) (ps : List (Int × Int)), vs = [.ref l] ∧ H l = some (.lst ys) ∧ PairsAt H ys ps ∧ ps.length ≤ 1000 ∧ ∀ H', Same H H' → Q (.int (leastL ps)) H'
def spGreatest (K : PySem.W.Frag) : Sp := fun vs H Q _ => ∃ (r : Addr) (ss : List Stp) (b : Int), vs = [.ref r] ∧ RoadAt K H r b ss ∧ ∀ H', AllG b ss → Same H H' → Q (if leastL (reachL b ss ss.length) < 0 then .non else .int (leastL (reachL b ss ss.length))) H'
section
variable {P : Program} {w : World} {K : PySem.W.Frag} {mg : Str → Option Value} {base : Heap}
theorem ok_reaches (T : Tx w K mg) : Prom P w K mg base CX0 7 "reaches" s_reaches ["base", "steps"] (spReaches K) := by
  refine Prom.of T.d_reaches sc_reaches (fun vs H Q E h => ?_) (fun _ _ _ _ _ _ us hl => match us, hl with | [_, _], _ => rfl) (fun f cdv A outer s H vs Q E hr h => ?_)
  · obtain ⟨t, xs, ss, b, rfl, _⟩ := h
    rfl
  · obtain ⟨t, xs, ss, b, rfl, ht, hm, rb, len, b0, b1, k⟩ := h
    have hlx := hm.len
    refine ⟨_, (pss_cons (ps_set (i := 2) sc_reaches.nd rfl (Or.inl rfl) (pe_lst pa_nil))
      (pss_cons (ps_for PassesOwn.never (by rfl) (pi_enumT (by rfl) T.b_enumerate (pa_cons (pv 1) pa_nil)) (pg_tup rfl (pgs_cons (pg_name (i := 3) sc_reaches.nd rfl (Or.inl rfl)) (pgs_cons (pg_name (i := 4) sc_reaches.nd rfl (Or.inl rfl)) pgs_nil))) (pss_one (ps_if (pt_cmpR op_eq (pe_ix ix_tup (pv 4) pe_int (fun _ _ => rfl)) pe_str (nomark _)) (pss_cons (ps_set (i := 5) sc_reaches.nd rfl (Or.inl rfl) (pe_callP (ok_greatest_within T) (hr.mono (by decide)) (by rfl) pass0 (pa_cons (pe_callP (ok_stack_behind T) (hr.mono (by decide)) (by rfl) pass0 (pa_cons (pv 0) (pa_cons (pe_slice sl_tup (pv 1) po_none (po_some (pv 3))) pa_nil))) (pa_cons (pe_ix ix_tup (pv 4) pe_int (fun _ _ => rfl)) pa_nil))))
      (pss_one (ps_expr (pe_bm PySem.F.plainAttrs_list PySem.F.slot_list_append PySem.F.type_list_append mt_append (pv 2) (pa_cons (pe_tup (pa_cons (pv 3) (pa_cons (pe_ifExp (pt_cmpR op_isN (pv 5) pe_non (nomark _)) (pe_un un_neg pe_int) (pv 5)) pa_nil))) pa_nil))))) pss_nil)))
      (pss_one (ps_ret (pv 2))))), ?_⟩
    refine ⟨Nat.zero_le _, fun l hl => ?_⟩
    refine ⟨_, rfl, t, xs, rfl, SqT.of (up hl _ _ ht), for_it (walk_enumT (K := K) (a := t) (xs := xs)) (fun i σ H' => Same H H' ∧ (∀ j m, j < i → ss[j]? = some (.bound m) → IsG b (onL (ss.take j)) m (gwI b (onL (ss.take j)) m)) ∧ ∃ (ys : List V) (v1 v2 v3 : Option V), H' l = some (.lst ys) ∧ PairsAt H' ys (reachL b ss i) ∧ σ = [some (.int b), some (.ref t), some (.ref l), v1, v2, v3])
      ⟨up hl, fun j m hj => absurd hj (Nat.not_lt_zero j), [], none, none, none, upd_same, .nil, rfl⟩ (fun _ _ H' _ h => SqT.of (h.1 _ _ ht)) ?_ ?_⟩
    · rintro i x σ H1 H2 hi ⟨hs, hg, ys, v1, v2, v3, hl1, hy, rfl⟩ ⟨T2, x1, x2, rfl, hT2, rfl, e1, e2⟩
      cases e1
      obtain ⟨u, st, rfl, hst, hu⟩ := hm.get e2
      have hil : i < ss.length := (List.getElem?_eq_some_iff.mp hst).1
      have s2 := hs.trans (up (o := .tup [.int (i : Nat), .ref u]) hT2)
      have hl2 := up (o := .tup [.int (i : Nat), .ref u]) hT2 _ _ hl1
      have hy2 := hy.same (up (o := .tup [.int (i : Nat), .ref u]) hT2)
      have hu := hu.keeps (.same s2)
      refine ⟨T2, _, rfl, SqT.of upd_same, rfl, _, _, rfl, _, _, rfl, rfl, ?_⟩
      generalize (upd H1 T2 (.tup [.int (i : Nat), .ref u])) = H4 at s2 hl2 hy2 hu ⊢
      have ext : (∀ m, st = .bound m → IsG b (onL (ss.take i)) m (gwI b (onL (ss.take i)) m)) → ∀ j m, j < i + 1 → ss[j]? = some (.bound m) → IsG b (onL (ss.take j)) m (gwI b (onL (ss.take j)) m) := fun hh j m hj e => by
        by_cases z : j = i
        · subst z
          rw [hst] at e
          exact hh m (Option.some.inj e)
        · exact hg j m (by omega) e
      cases st with
      | push a =>
        obtain ⟨y, g1, g2⟩ := hu
        have er : reachL b ss (i + 1) = reachL b ss i := by
          rw [reachL_succ]
          unfold reachAt
          rw [hst]
          simp
        rw [er]
        refine ⟨_, rfl, u, _, _, _, rfl, rfl, SqT.of g1, rfl, rfl, _, rfl, ifs_neg (show ("push" : Str) ≠ "bound" by decide) ?_⟩
        exact ⟨s2, ext (fun m e => by cases e), ys, _, _, _, hl2, hy2, rfl⟩
      | pop =>
        have g1 : H4 u = _ := hu
        have er : reachL b ss (i + 1) = reachL b ss i := by
          rw [reachL_succ]
          unfold reachAt
          rw [hst]
          simp
        rw [er]
        refine ⟨_, rfl, u, _, _, _, rfl, rfl, SqT.of g1, rfl, rfl, _, rfl, ifs_neg (show ("pop" : Str) ≠ "bound" by decide) ?_⟩
        exact ⟨s2, ext (fun m e => by cases e), ys, _, _, _, hl2, hy2, rfl⟩
      | bound m =>
        have g1 : H4 u = _ := hu
        have sok : 0 ≤ m ∧ m ≤ 10 ^ 60 - 1 := rb.at_ hst
        have so := (rb.take i).stk b0 b1
        have er : reachL b ss (i + 1) = reachL b ss i ++ [(((i : Nat) : Int), gwI b (onL (ss.take i)) m)] := by
          rw [reachL_succ]
          unfold reachAt
          rw [hst]
          rfl
        have e0 : cutV xs none (some (i : Int)) = xs.take i := cut_to (by omega)
        have yl := hy.len
        have rl := reachL_len b ss i
        refine ⟨_, rfl, u, _, _, _, rfl, rfl, SqT.of g1, rfl, rfl, _, rfl, ifd_pos rfl ?_⟩
        refine ⟨_, rfl, _, rfl, _, rfl, _, rfl, t, xs, rfl, SqT.of (s2 _ _ ht), ?_, fun p1 hp1 => ?_⟩
        · rintro ⟨_, z⟩
          rw [HT.sIx_nat] at z
          omega
        rw [e0]
        have s3 := s2.trans (up (o := .tup (xs.take i)) hp1)
        refine ⟨p1, _, b, ss.take i, rfl, upd_same, (hm.keeps (.same s3)).take i, rb.take i, b0, b1, fun q H5 nq s5 st5 => ?_⟩
        have s6 := s3.trans s5
        have g5 := s5 _ _ (up hp1 _ _ g1)
        refine ⟨_, rfl, u, _, _, _, rfl, rfl, SqT.of g5, rfl, q, b, m, _, rfl, st5, so, sok.1, sok.2, fun ig => ?_⟩
        have hl5 := s5 _ _ (up hp1 _ _ hl2)
        have hy5 := (hy2.same (up (o := .tup (xs.take i)) hp1)).same s5
        have fin : ∀ t7, H5 t7 = none → Same H (upd (upd H5 t7 (.tup [.int (i : Nat), .int (gwI b (onL (ss.take i)) m)])) l (.lst (ys ++ [.ref t7]))) ∧ PairsAt (upd (upd H5 t7 (.tup [.int (i : Nat), .int (gwI b (onL (ss.take i)) m)])) l (.lst (ys ++ [.ref t7]))) (ys ++ [.ref t7]) (reachL b ss (i + 1)) := fun t7 ht7 => by
          refine ⟨fun y o e => ?_, ?_⟩
          · rw [upd_ne (ne_of_none e hl)]
            exact up ht7 _ _ (s6 _ _ e)
          · rw [er]
            exact PairsAt.put (PairsAt.snoc (a := (((i : Nat) : Int), gwI b (onL (ss.take i)) m)) (hy5.same (up ht7)) upd_same) (up ht7 _ _ hl5)
        have small : ys.length < sizeLine := by
          rw [sizeLine_eq]
          omega
        refine ⟨_, rfl, .inl ⟨rfl, _, SqL.of hl5⟩, _, rfl, ?_⟩
        unfold gwV
        by_cases z : gwI b (onL (ss.take i)) m < 0
        · rw [if_pos z]
          have e1 : gwI b (onL (ss.take i)) m = -1 := by have := ig.1; omega
          rw [e1] at fin
          refine ⟨_, rfl, rfl, _, rfl, ifd_pos rfl ⟨_, rfl, (by show 2 ≤ sizeLine; decide), fun t7 ht7 => ⟨l, _, _, rfl, rfl, up ht7 _ _ hl5, small, ?_⟩⟩⟩
          obtain ⟨f1, f2⟩ := fin t7 ht7
          exact ⟨f1, ext (fun m' e => by cases e; exact ig), _, _, _, _, upd_same, f2, rfl⟩
        · rw [if_neg z]
          refine ⟨_, rfl, rfl, _, rfl, ifd_neg (fun y => by cases y) ⟨_, rfl, (by show 2 ≤ sizeLine; decide), fun t7 ht7 => ⟨l, _, _, rfl, rfl, up ht7 _ _ hl5, small, ?_⟩⟩⟩
          obtain ⟨f1, f2⟩ := fin t7 ht7
          exact ⟨f1, ext (fun m' e => by cases e; exact ig), _, _, _, _, upd_same, f2, rfl⟩
    · rintro σ H' ⟨hs, hg, ys, v1, v2, v3, hl1, hy, rfl⟩
      rw [hlx] at hg hy
      exact ⟨_, rfl, k l ys H' hl (fun i m e => hg i m (List.getElem?_eq_some_iff.mp e).1 e) hs hl1 hy⟩
theorem ok_least_reach (T : Tx w K mg) : Prom P w K mg base CX0 1 "least_reach" s_least_reach ["pairs"] spLeast := by
  refine Prom.of T.d_least_reach sc_least_reach (fun vs H Q E h => ?_) (fun _ _ _ _ _ _ us hl => match us, hl with | [_], _ => rfl) (fun f cdv A outer s H vs Q E hr h => ?_)
  · obtain ⟨l, ys, ps, rfl, _⟩ := h
    rfl
  · obtain ⟨l, ys, ps, rfl, hl, hy, len, k⟩ := h
    have hyl := hy.len
    refine ⟨_, (pss_one (ps_ret (pe_callB (cr_min rfl) (by rfl) T.b_min (by decide +kernel) (pa_cons (pe_lst (pa_cons (pe_gint T.c_LAST_LENGTH) (StX.pa_star (pe_lc (own := [("place", 1), ("most", 2)]) (g := (gTup K 2 (gCons (gName 1) (gCons (gName 2) gNil)))) (tt := tYes) (by rfl) sc_least_reach.nd (pi_list (pv 0)) (blkOk_by (own := [("place", 1), ("most", 2)]) (N := ["pairs", "place", "most"]) (sc := defScope s_least_reach) (by decide +kernel)) (fun _ _ _ _ _ => (pg_tup rfl (pgs_cons (pg_name (i := 1) sc_least_reach.nd rfl (Or.inl rfl)) (pgs_cons (pg_name (i := 2) sc_least_reach.nd rfl (Or.inl rfl)) pgs_nil)))) (fun _ _ _ _ _ => pts_nil) (fun _ _ _ _ _ => (pv 2))) pa_nil))) pa_nil)))), ?_⟩
    refine ⟨_, rfl, l, rfl, ⟨_, SqL.of hl⟩, fun D hD => ?_⟩
    refine lc_list (K := K) (a := l) (xs := ys) (Pv := fun i H' => Same H H' ∧ H' D = some (.lst ((ps.take i).map fun z => V.int z.2))) ⟨up hD, upd_same⟩ (fun i H' _ h => SqL.of (h.1 _ _ hl)) ?_ ?_
    · rintro i x H' hi ⟨hs, hd⟩
      obtain ⟨u, a, rfl, ha, hu⟩ := hy.get hi
      have hil : i < ps.length := (List.getElem?_eq_some_iff.mp ha).1
      refine ⟨u, _, rfl, SqT.of (hs _ _ hu), rfl, _, _, rfl, _, _, rfl, rfl, rfl, _, rfl, _, hd, ?_, fun y o e => ?_, ?_⟩
      · rw [List.length_map, List.length_take, sizeLine_eq]
        omega
      · rw [upd_ne (ne_of_none e hD)]
        exact hs _ _ e
      · rw [upd_same, List.take_succ, ha, List.map_append]
        rfl
    · rintro H' ⟨hs, hd⟩
      rw [hyl, List.take_length] at hd
      refine ⟨D, _, rfl, .inr (SqL.of hd), ?_, fun l2 hl2 => ?_⟩
      · simp
        rw [sizeLine_eq]
        omega
      have el : V.int (10 ^ 60 - 1) :: (ps.map (fun z => V.int z.2) ++ []) = ((10 ^ 60 - 1) :: ps.map (·.2)).map V.int := by simp
      refine ⟨l2, (10 ^ 60 - 1) :: ps.map (·.2), rfl, SqL.of (by rw [← el]; exact upd_same), by simp, fun m hm hle => ?_⟩
      have e := leastL_eq hm hle
      rw [e]
      exact k _ (hs.trans (up hl2))
theorem ok_Road_greatest (T : Tx w K mg) : PromM P w K mg base CX0 8 "Road" "greatest" ["self"] (spGreatest K) := by
  refine PromM.of T.cl_Road T.me_Road_greatest T.dm_Road_greatest sc_Road_greatest (fun vs H Q E h => ?_) (fun _ _ _ _ _ _ us hl => match us, hl with | [_], _ => rfl) (fun f cdv A outer s H vs Q E hr h => ?_)
  · obtain ⟨r, ss, b, rfl, _⟩ := h
    rfl
  · obtain ⟨r, ss, b, rfl, hR, k⟩ := h
    obtain ⟨dx, t, q, xs, h1, h2, h3, h4⟩ := hR.at_
    have rl := reachL_len b ss ss.length
    have len := hR.len
    refine ⟨_, (pss_cons (ps_set (i := 1) sc_Road_greatest.nd rfl (Or.inl rfl) (pe_callP (ok_least_reach T) (hr.mono (by decide)) (by rfl) pass0 (pa_cons (pe_callP (ok_reaches T) (hr.mono (by decide)) (by rfl) pass0 (pa_cons (pe_fld (pv 0) rfl) (pa_cons (pe_fld (pv 0) rfl) pa_nil))) pa_nil)))
      (pss_one (ps_ret (pe_ifExp (pt_cmp (pc_lt (pv 1) pe_int)) pe_non (pv 1))))), ?_⟩
    refine ⟨_, rfl, r, _, dx, _, _, rfl, h1, T.cl_Road, T.na_Road_base, rfl, _, rfl, r, _, dx, _, _, rfl, h1, T.cl_Road, T.na_Road_steps, rfl, t, xs, ss, b, rfl, h2, h3, hR.rb, hR.len, hR.b0, hR.b1, fun l ys H1 nl ag s1 hl hy => ?_⟩
    refine ⟨l, ys, _, rfl, hl, hy, by omega, fun H2 s2 => ?_⟩
    have k2 := k H2 ag (s1.trans s2)
    refine ⟨_, rfl, _, _, rfl, rfl, _, rfl, ifd (fun c => ?_) (fun c => ?_)⟩
    · have c : leastL (reachL b ss ss.length) < 0 := c
      rw [if_pos c] at k2
      exact k2
    · have c : ¬ leastL (reachL b ss ss.length) < 0 := c
      rw [if_neg c] at k2
      exact ⟨_, rfl, k2⟩
end
theorem reachAt_app {b : Int} {ss : List Stp} {s : Stp} {i : Nat} (h : i < ss.length) : reachAt b (ss ++ [s]) i = reachAt b ss i := by
  unfold reachAt
  rw [List.getElem?_append_left h, List.take_append_of_le_length (by omega)]
theorem reach_app {b : Int} {ss : List Stp} {s : Stp} : ∀ k : Nat, k ≤ ss.length → reachL b (ss ++ [s]) k = reachL b ss k
  | 0, _ => rfl
  | k + 1, h => by rw [reachL_succ, reachL_succ, reach_app k (by omega), reachAt_app (by omega)]
theorem reach_snoc {b : Int} {ss : List Stp} {s : Stp} : reachL b (ss ++ [s]) (ss ++ [s]).length = reachL b ss ss.length ++ (reachAt b (ss ++ [s]) ss.length).toList := by
  rw [List.length_append, List.length_singleton, reachL_succ, reach_app _ (Nat.le_refl _)]
theorem reach_none {b : Int} {ss : List Stp} {s : Stp} (h : ∀ m, s ≠ .bound m) : reachL b (ss ++ [s]) (ss ++ [s]).length = reachL b ss ss.length := by
  rw [reach_snoc]
  have e : reachAt b (ss ++ [s]) ss.length = none := by
    unfold reachAt
    rw [List.getElem?_append_right (Nat.le_refl _), Nat.sub_self]
    cases s with
    | bound m => exact absurd rfl (h m)
    | push a => rfl
    | pop => rfl
  rw [e]
  simp
theorem least_app (ps qs : List (Int × Int)) : leastL (ps ++ qs) ≤ leastL ps := by
  unfold leastL
  rw [List.map_append, List.foldl_append]
  exact (least_fold _ _).1
section
variable {P : Program} {w : World} {K : PySem.W.Frag} {mg : Str → Option Value} {base : Heap}
theorem ok_L_on (T : Tx w K mg) : Prom P w K mg base CX0 2 "_law_on" s_L_on ["_law_moves_here"] spLOn := by
  refine Prom.of T.d_L_on sc_L_on (fun vs H Q E h => ?_) (fun _ _ _ _ _ _ us hl => match us, hl with | [_], _ => rfl) (fun f cdv A outer s H vs Q E hr h => ?_)
  · obtain ⟨l, xs, ss, b, rfl, _⟩ := h
    rfl
  · obtain ⟨l, xs, ss, b, rfl, hl, hm, rb, b0, b1, k⟩ := h
    refine ⟨_, (pss_cons (ps_set (i := 1) sc_L_on.nd rfl (Or.inl rfl) (pe_lst pa_nil))
      (pss_cons (ps_for PassesOwn.never (by rfl) (pi_list (pv 0)) (pg_name (i := 2) sc_L_on.nd rfl (Or.inl rfl)) (pss_one (ps_expr (pe_callP (ok_L_put T) (hr.mono (by decide)) (by rfl) pass0 (pa_cons (pv 1) (pa_cons (pv 2) pa_nil))))))
      (pss_one (ps_ret (pv 1))))), ?_⟩
    refine ⟨Nat.zero_le _, fun lo hlo => ?_⟩
    have nl : l ≠ lo := ne_of_none hl hlo
    refine ⟨_, rfl, l, rfl, ⟨_, SqL.of (up hlo _ _ hl)⟩, for_list (K := K) (a := l) (xs := xs) (fun i σ H' => Same H H' ∧ ∃ (ys : List V) (v : Option V), H' lo = some (.lst ys) ∧ TagsAt H' ys (onL (ss.take i)) ∧ σ = [some (.ref l), some (.ref lo), v]) ⟨up hlo, [], none, upd_same, .nil, rfl⟩ (fun i σ H' _ h => SqL.of (h.1 _ _ hl)) ?_ ?_⟩
    · rintro i x σ H' hi ⟨hs, ys, v, ho, ht, rfl⟩
      obtain ⟨q, st, rfl, hq, mv⟩ := hm.get hi
      have et : ss.take (i + 1) = ss.take i ++ [st] := by
        rw [List.take_succ, hq]
        rfl
      have sok := rb.at_ hq
      have so := (rb.take i).stk b0 b1
      refine ⟨_, rfl, _, rfl, lo, q, ys, _, st, rfl, ho, ht, so.len, mv.same hs, fun e => ?_, fun ys' ht4 => ?_⟩
      · rw [e] at sok
        exact sok
      refine ⟨fun y o e => ?_, ys', _, upd_same, ?_, rfl⟩
      · rw [upd_ne (ne_of_none e hlo)]
        exact hs _ _ e
      · rw [et, onL_snoc]
        exact ht4.put ho
    · rintro σ H' ⟨hs, ys, v, ho, ht, rfl⟩
      rw [hm.len, List.take_length] at ht
      exact ⟨_, rfl, k lo ys H' hlo hs ho ht⟩
end
theorem sm_drew {p : Addr} {H H1 H2 : Hp} (s : Same H H1) (d : Drew p H1 H2) (h : H p = none) : Same H H2 := fun b o e => d.kp b o (ne_of_none e h) (s b o e)
theorem sm_kp {p : Addr} {H H1 H2 : Hp} (s : Same H H1) (d : Kp p H1 H2) (h : H p = none) : Same H H2 := fun b o e => d b o (ne_of_none e h) (s b o e)
def spRightI : Sp := fun vs H Q _ => ∃ (c : Int), vs = [.int c] ∧ ∀ H', Same H H' → Q (.bl true) H'
theorem RoadAt.ins {K : PySem.W.Frag} {H : Hp} {r : Addr} {b : Int} {ss : List Stp} (h : RoadAt K H r b ss) : ∃ dx fs, H r = some (.ins (He.ga K "Road") dx fs) := by
  obtain ⟨dx, t, q, xs, h1, _⟩ := h.at_
  exact ⟨dx, _, h1⟩
theorem MoveAt.kp {K : PySem.W.Frag} {H H' : Hp} {r m dr : Addr} {fs : List (Str × V)} {s : Stp} (h : MoveAt H m s) (hr : H r = some (.ins (He.ga K "Road") dr fs)) (k : Kp r H H') : MoveAt H' m s := by
  have ne : ∀ {q : Addr} {xs : List V}, H q = some (.tup xs) → H' q = some (.tup xs) := fun {q xs} e => k _ _ (fun z => by rw [z, hr] at e; cases e) e
  cases s with
  | push a =>
    obtain ⟨q, h1, h2⟩ := h
    exact ⟨q, ne h1, ne h2⟩
  | pop => exact ne h
  | bound n => exact ne h
theorem MovesAt.kp {K : PySem.W.Frag} {H H' : Hp} {r dr : Addr} {fs : List (Str × V)} {xs : List V} {ss : List Stp} (h : MovesAt H xs ss) (hr : H r = some (.ins (He.ga K "Road") dr fs)) (k : Kp r H H') : MovesAt H' xs ss := by
  induction h with
  | nil => exact .nil
  | cons h _ ih => exact .cons (h.kp hr k) ih
theorem TagsAt.kp {K : PySem.W.Frag} {H H' : Hp} {r dr : Addr} {fs : List (Str × V)} {xs : List V} {ws : List Wr} (h : TagsAt H xs ws) (hr : H r = some (.ins (He.ga K "Road") dr fs)) (k : Kp r H H') : TagsAt H' xs ws := by
  induction h with
  | nil => exact .nil
  | @cons p a xs ws h _ ih =>
    refine .cons ?_ ih
    have h : H p = _ := h
    exact k _ _ (fun z => by rw [z, hr] at h; cases h) h
def spGo (K : PySem.W.Frag) : Sp := fun vs H Q _ => ∃ (r m : Addr) (b : Int) (ss : List Stp) (s : Stp), vs = [.ref r, .ref m] ∧ RoadAt K H r b ss ∧ ss.length < 1000 ∧ MoveAt H m s ∧ stepOk b (onL ss) s ∧ ∀ H', Kp r H H' → RoadAt K H' r b (ss ++ [s]) → Q .non H'
section
variable {P : Program} {w : World} {K : PySem.W.Frag} {mg : Str → Option Value} {base : Heap}
theorem ok_L_go (T : Tx w K mg) : Prom P w K mg base CX0 9 "_law_go" s_L_go ["_law_track_here", "_law_move_here"] (spGo K) := by
  refine Prom.of T.d_L_go sc_L_go (fun vs H Q E h => ?_) (fun _ _ _ _ _ _ us hl => match us, hl with | [_, _], _ => rfl) (fun f cdv A outer s H vs Q E hr h => ?_)
  · obtain ⟨r, m, b, ss, st, rfl, _⟩ := h
    rfl
  · obtain ⟨r, m, b, ss, st, rfl, hR, hl, mv, sok, k⟩ := h
    obtain ⟨dx, t, q, xs, h1, h2, h3, h4⟩ := hR.at_
    refine ⟨_, (pss_cons (ps_if (pt_cmpR op_eq (pe_ix ix_tup (pv 1) pe_int (fun _ _ => rfl)) pe_str (nomark _)) (pss_one (ps_ret (pe_methP (ok_Road_push T) (hr.mono (by decide)) pass0 (pv 0) (pa_cons (pe_callP (ok_L_made T) (hr.mono (by decide)) (by rfl) pass0 (pa_cons (pe_ix ix_tup (pv 1) pe_int (fun _ _ => rfl)) pa_nil)) pa_nil)))) pss_nil)
      (pss_one (ps_ret (pe_ifExp (pt_cmpR op_eq (pe_ix ix_tup (pv 1) pe_int (fun _ _ => rfl)) pe_str (nomark _)) (pe_methP0 (ok_Road_pop T) (hr.mono (by decide)) pass0 (pv 0)) (pe_methP (ok_Road_bound T) (hr.mono (by decide)) pass0 (pv 0) (pa_cons (pe_ix ix_tup (pv 1) pe_int (fun _ _ => rfl)) pa_nil)))))), ?_⟩
    cases st with
    | push a =>
      obtain ⟨u, g1, g2⟩ := mv
      have aok : a.ok := sok.ok a (by simp)
      refine ⟨_, rfl, m, _, _, _, rfl, rfl, SqT.of g1, rfl, rfl, _, rfl, ifd_pos rfl ?_⟩
      refine ⟨_, rfl, r, dx, _, rfl, h1, rfl, _, rfl, m, _, _, _, rfl, rfl, SqT.of g1, rfl, u, a, rfl, g2, aok, fun y H1 ny s1 wy => ?_⟩
      exact ⟨r, y, b, ss, a, rfl, hR.same s1, hl, wy, sok, fun H2 kp hR2 => k _ (fun z o n e => kp z o n (s1 _ _ e)) hR2⟩
    | pop =>
      have g1 : H m = _ := mv
      refine ⟨_, rfl, m, _, _, _, rfl, rfl, SqT.of g1, rfl, rfl, _, rfl, ifs_neg (show ("pop" : Str) ≠ "push" by decide) ?_⟩
      refine ⟨_, rfl, m, _, _, _, rfl, rfl, SqT.of g1, rfl, rfl, _, rfl, ifd_pos rfl ?_⟩
      exact ⟨_, rfl, r, dx, _, rfl, h1, rfl, r, b, ss, rfl, hR, hl, sok, k⟩
    | bound n =>
      have g1 : H m = _ := mv
      refine ⟨_, rfl, m, _, _, _, rfl, rfl, SqT.of g1, rfl, rfl, _, rfl, ifs_neg (show ("bound" : Str) ≠ "push" by decide) ?_⟩
      refine ⟨_, rfl, m, _, _, _, rfl, rfl, SqT.of g1, rfl, rfl, _, rfl, ifs_neg (show ("bound" : Str) ≠ "pop" by decide) ?_⟩
      exact ⟨_, rfl, r, dx, _, rfl, h1, rfl, _, rfl, m, _, _, _, rfl, rfl, SqT.of g1, rfl, r, b, n, ss, rfl, hR, hl, sok.1, sok.2, k⟩
end
def spTrack (K : PySem.W.Frag) : Sp := fun vs H Q _ => ∃ (l : Addr) (xs : List V) (ss : List Stp) (b : Int), vs = [.ref l, .int b] ∧ H l = some (.lst xs) ∧ MovesAt H xs ss ∧ RoadB b ss ∧ ss.length < 900 ∧ 2 ≤ b ∧ b ≤ 256 ∧ ∀ r H', H r = none → Same H H' → RoadAt K H' r b ss → Q (.ref r) H'
section
variable {P : Program} {w : World} {K : PySem.W.Frag} {mg : Str → Option Value} {base : Heap}
theorem ok_L_track (T : Tx w K mg) : Prom P w K mg base CX0 10 "_law_track" s_L_track ["_law_moves_here", "_law_b"] (spTrack K) := by
  refine Prom.of T.d_L_track sc_L_track (fun vs H Q E h => ?_) (fun _ _ _ _ _ _ us hl => match us, hl with | [_, _], _ => rfl) (fun f cdv A outer s H vs Q E hr h => ?_)
  · obtain ⟨l, xs, ss, b, rfl, _⟩ := h
    rfl
  · obtain ⟨l, xs, ss, b, rfl, hl, hm, rb, len, b0, b1, k⟩ := h
    refine ⟨_, (pss_cons (ps_set (i := 2) sc_L_track.nd rfl (Or.inl rfl) (pe_newP (ok_Road T) (hr.mono (by decide)) (by rfl) pass0 (pa_cons (pv 1) pa_nil)))
      (pss_cons (ps_for PassesOwn.never (by rfl) (pi_list (pv 0)) (pg_name (i := 3) sc_L_track.nd rfl (Or.inl rfl)) (pss_one (ps_expr (pe_callP (ok_L_go T) (hr.mono (by decide)) (by rfl) pass0 (pa_cons (pv 2) (pa_cons (pv 3) pa_nil))))))
      (pss_one (ps_ret (pv 2))))), ?_⟩
    refine ⟨_, rfl, b, rfl, b0, b1, fun r H1 nr s1 hR => ?_⟩
    refine ⟨_, rfl, l, rfl, ⟨_, SqL.of (s1 _ _ hl)⟩, for_list (K := K) (a := l) (xs := xs) (fun i σ H' => Same H H' ∧ RoadAt K H' r b (ss.take i) ∧ ∃ v, σ = [some (.ref l), some (.int b), some (.ref r), v]) ⟨s1, hR, none, rfl⟩ (fun i σ H' _ h => SqL.of (h.1 _ _ hl)) ?_ ?_⟩
    · rintro i x σ H' hi ⟨hs, hR, v, rfl⟩
      obtain ⟨q, st, rfl, hq, mv⟩ := hm.get hi
      have et : ss.take (i + 1) = ss.take i ++ [st] := by
        rw [List.take_succ, hq]
        rfl
      refine ⟨_, rfl, _, rfl, r, q, b, ss.take i, st, rfl, hR, by rw [List.length_take]; omega, mv.same hs, rb.at_ hq, fun H2 kp hR2 => ?_⟩
      rw [← et] at hR2
      exact ⟨sm_kp hs kp nr, hR2, _, rfl⟩
    · rintro σ H' ⟨hs, hR, v, rfl⟩
      rw [hm.len, List.take_length] at hR
      exact ⟨_, rfl, k r H' nr hs hR⟩
end
theorem first_of {b m : Int} {ss : List Stp} : ∀ k : Nat, ((((reachL b ss k).filter fun z => decide (z.2 = m)).map (·.1)) = [] ∧ ∀ j y, j < k → ss[j]? = some (.bound y) → gwI b (onL (ss.take j)) y ≠ m) ∨
    ∃ (i : Nat) (rest : List Int) (x : Int), (((reachL b ss k).filter fun z => decide (z.2 = m)).map (·.1)) = (i : Int) :: rest ∧ ss[i]? = some (.bound x) ∧ gwI b (onL (ss.take i)) x = m ∧ ∀ j y, j < i → ss[j]? = some (.bound y) → gwI b (onL (ss.take j)) y ≠ m
  | 0 => .inl ⟨rfl, fun j y h => absurd h (Nat.not_lt_zero j)⟩
  | k + 1 => by
    rw [reachL_succ, List.filter_append, List.map_append]
    rcases first_of (b := b) (m := m) (ss := ss) k with ⟨h1, h2⟩ | ⟨i, rest, x, h1, h2, h3, h4⟩
    · rw [h1]
      cases es : ss[k]? with
      | none =>
        have e : reachAt b ss k = none := by unfold reachAt; rw [es]
        rw [e]
        refine .inl ⟨rfl, fun j y hj ey => ?_⟩
        by_cases z : j = k
        · rw [z, es] at ey
          cases ey
        · exact h2 j y (by omega) ey
      | some s =>
        cases s with
        | push a =>
          have e : reachAt b ss k = none := by unfold reachAt; rw [es]
          rw [e]
          refine .inl ⟨rfl, fun j y hj ey => ?_⟩
          by_cases z : j = k
          · rw [z, es] at ey
            cases ey
          · exact h2 j y (by omega) ey
        | pop =>
          have e : reachAt b ss k = none := by unfold reachAt; rw [es]
          rw [e]
          refine .inl ⟨rfl, fun j y hj ey => ?_⟩
          by_cases z : j = k
          · rw [z, es] at ey
            cases ey
          · exact h2 j y (by omega) ey
        | bound x =>
          have e : reachAt b ss k = some ((k : Int), gwI b (onL (ss.take k)) x) := by unfold reachAt; rw [es]
          rw [e]
          by_cases c : gwI b (onL (ss.take k)) x = m
          · refine .inr ⟨k, [], x, by simp [c], es, c, h2⟩
          · refine .inl ⟨by simp [c], fun j y hj ey => ?_⟩
            by_cases z : j = k
            · rw [z, es] at ey
              cases ey
              rw [z]
              exact c
            · exact h2 j y (by omega) ey
    · rw [h1]
      exact .inr ⟨i, _, x, rfl, h2, h3, h4⟩
def IsPl (b : Int) (ss : List Stp) (v : V) : Prop := (leastL (reachL b ss ss.length) = 10 ^ 60 - 1 ∧ v = .non) ∨ (leastL (reachL b ss ss.length) ≠ 10 ^ 60 - 1 ∧ ∃ (i : Nat) (x : Int), v = .int (i : Nat) ∧ ss[i]? = some (.bound x) ∧ gwI b (onL (ss.take i)) x = leastL (reachL b ss ss.length) ∧ ∀ j y, j < i → ss[j]? = some (.bound y) → gwI b (onL (ss.take j)) y ≠ leastL (reachL b ss ss.length))
theorem least_mem {b : Int} {ss : List Stp} (h : leastL (reachL b ss ss.length) ≠ 10 ^ 60 - 1) : ∃ z ∈ reachL b ss ss.length, z.2 = leastL (reachL b ss ss.length) := by
  obtain ⟨g1, g2, g3⟩ := least_fold ((reachL b ss ss.length).map (·.2)) (10 ^ 60 - 1)
  rcases g3 with g3 | g3
  · exact absurd g3 h
  · obtain ⟨z, hz, e⟩ := List.mem_map.mp g3
    exact ⟨z, hz, e⟩
def spStopper (K : PySem.W.Frag) : Sp := fun vs H Q _ => ∃ (r : Addr) (ss : List Stp) (b : Int), vs = [.ref r] ∧ RoadAt K H r b ss ∧ ∀ v H', AllG b ss → IsPl b ss v → Same H H' → Q v H'
section
variable {P : Program} {w : World} {K : PySem.W.Frag} {mg : Str → Option Value} {base : Heap}
theorem ok_Road_stopper (T : Tx w K mg) : PromM P w K mg base CX0 8 "Road" "stopper" ["self"] (spStopper K) := by
  refine PromM.of T.cl_Road T.me_Road_stopper T.dm_Road_stopper sc_Road_stopper (fun vs H Q E h => ?_) (fun _ _ _ _ _ _ us hl => match us, hl with | [_], _ => rfl) (fun f cdv A outer s H vs Q E hr h => ?_)
  · obtain ⟨r, ss, b, rfl, _⟩ := h
    rfl
  · obtain ⟨r, ss, b, rfl, hR, k⟩ := h
    obtain ⟨dx, t, q, xs, h1, h2, h3, h4⟩ := hR.at_
    have rl := reachL_len b ss ss.length
    have len := hR.len
    refine ⟨_, (pss_cons (ps_set (i := 1) sc_Road_stopper.nd rfl (Or.inl rfl) (pe_callP (ok_reaches T) (hr.mono (by decide)) (by rfl) pass0 (pa_cons (pe_fld (pv 0) rfl) (pa_cons (pe_fld (pv 0) rfl) pa_nil))))
      (pss_cons (ps_set (i := 2) sc_Road_stopper.nd rfl (Or.inr rfl) (pe_callP (ok_least_reach T) (hr.mono (by decide)) (by rfl) pass0 (pa_cons (pv 1) pa_nil)))
      (pss_cons (ps_if (pt_cmp (pc_eqI (pv 2) (pe_gint T.c_LAST_LENGTH))) (pss_one (ps_ret pe_non)) pss_nil)
      (pss_one (ps_ret (pe_ix ix_list (pe_lc (own := [("place", 3), ("most", 4)]) (g := (gTup K 2 (gCons (gName 3) (gCons (gName 4) gNil)))) (by rfl) sc_Road_stopper.nd (pi_list (pv 1)) (blkOk_by (own := [("place", 3), ("most", 4)]) (N := ["self", "pairs", "least", "place", "most"]) (sc := defScope s_Road_stopper) (by decide +kernel)) (fun _ _ _ _ _ => (pg_tup rfl (pgs_cons (pg_name (i := 3) sc_Road_stopper.nd rfl (Or.inl rfl)) (pgs_cons (pg_name (i := 4) sc_Road_stopper.nd rfl (Or.inl rfl)) pgs_nil)))) (fun _ _ _ _ _ => pts_one (pt_cmp (pc_eqI (pv 4) (pv 2)))) (fun _ _ _ _ _ => (pv 3))) pe_int (fun _ _ => rfl))))))), ?_⟩
    refine ⟨_, rfl, r, _, dx, _, _, rfl, h1, T.cl_Road, T.na_Road_base, rfl, _, rfl, r, _, dx, _, _, rfl, h1, T.cl_Road, T.na_Road_steps, rfl, t, xs, ss, b, rfl, h2, h3, hR.rb, hR.len, hR.b0, hR.b1, fun l ys H1 nl ag s1 hl hy => ?_⟩
    refine ⟨_, rfl, l, ys, _, rfl, hl, hy, by omega, fun H2 s2 => ?_⟩
    have hl2 := s2 _ _ hl
    have hy2 := hy.same s2
    have s2 := s1.trans s2
    have lm := least_mem (b := b) (ss := ss)
    have fo := first_of (b := b) (m := leastL (reachL b ss ss.length)) (ss := ss) ss.length
    have k := fun v H' h s => k v H' ag h s
    unfold IsPl at k
    generalize leastL (reachL b ss ss.length) = m at lm fo k ⊢
    generalize reachL b ss ss.length = ps at rl lm fo hy2 ⊢
    have hyl := hy2.len
    refine ⟨_, rfl, _, _, rfl, rfl, _, rfl, ifd (fun c => ?_) (fun c => ?_)⟩
    · exact k _ _ (.inl ⟨c, rfl⟩) s2
    · have c : ¬ m = 10 ^ 60 - 1 := c
      refine ⟨_, rfl, l, rfl, ⟨_, SqL.of hl2⟩, fun D hD => ?_⟩
      refine lc_list (K := K) (a := l) (xs := ys) (Pv := fun i H' => Same H2 H' ∧ H' D = some (.lst ((((ps.take i).filter fun z => decide (z.2 = m)).map (·.1)).map V.int))) ⟨up hD, upd_same⟩ (fun i H' _ h => SqL.of (h.1 _ _ hl2)) ?_ ?_
      · rintro i x H' hi ⟨hs, hd⟩
        obtain ⟨u, a, rfl, ha, hu⟩ := hy2.get hi
        have hil : i < ps.length := (List.getElem?_eq_some_iff.mp ha).1
        have et : ps.take (i + 1) = ps.take i ++ [a] := by
          rw [List.take_succ, ha]
          rfl
        refine ⟨u, _, rfl, SqT.of (hs _ _ hu), rfl, _, _, rfl, _, _, rfl, rfl, rfl, _, rfl, _, rfl, _, _, rfl, rfl, _, rfl, ifd (fun z => ?_) (fun z => ?_)⟩
        · have z : a.2 = m := z
          refine ⟨_, rfl, _, hd, ?_, fun y o e => ?_, ?_⟩
          · rw [List.length_map, List.length_map, sizeLine_eq]
            have h1 := List.length_filter_le (fun z : Int × Int => decide (z.2 = m)) (ps.take i)
            have h2 := List.length_take_le' i ps
            omega
          · rw [upd_ne (ne_of_none e hD)]
            exact hs _ _ e
          · rw [upd_same, et, List.filter_append, List.map_append, List.map_append]
            simp [z]
        · have z : ¬ a.2 = m := z
          refine ⟨hs, ?_⟩
          rw [hd, et, List.filter_append]
          simp [z]
      · rintro H' ⟨hs, hd⟩
        rw [hyl, List.take_length] at hd
        rcases fo with ⟨f1, f2⟩ | ⟨i, rest, x, f1, f2, f3, f4⟩
        · exfalso
          obtain ⟨z, hz, ez⟩ := lm c
          have : z.1 ∈ ((ps.filter fun z => decide (z.2 = m)).map (·.1)) := List.mem_map.mpr ⟨z, List.mem_filter.mpr ⟨hz, by simp [ez]⟩, rfl⟩
          rw [f1] at this
          cases this
        · rw [f1] at hd
          exact ⟨D, _, _, _, rfl, rfl, SqL.of hd, atI_nat (j := 0) rfl, k _ _ (.inr ⟨c, i, x, rfl, f2, f3, f4⟩) (s2.trans hs)⟩
end
theorem RoadB.of {b : Int} {ss : List Stp} (h : ∀ i s, ss[i]? = some s → stepOk b (onL (ss.take i)) s) : RoadB b ss := by
  have key : ∀ k : Nat, k ≤ ss.length → RoadB b (ss.take k) := fun k => by
    induction k with
    | zero => intro _; exact .nil
    | succ k ih =>
      intro hk
      obtain ⟨s, hs⟩ : ∃ s, ss[k]? = some s := ⟨_, List.getElem?_eq_getElem (by omega)⟩
      have e : ss.take (k + 1) = ss.take k ++ [s] := by
        rw [List.take_succ, hs]
        rfl
      rw [e]
      exact .snoc (ih (by omega)) (h k s hs)
  have := key ss.length (Nat.le_refl _)
  rw [List.take_length] at this
  exact this
theorem onL_mid (ss us : List Stp) (n : Int) : onL (ss ++ .bound n :: us) = onL (ss ++ us) := by
  unfold onL
  rw [List.foldl_append, List.foldl_append]
  rfl
/-- a bound put in -/
theorem RoadB.put {b n : Int} {ss us : List Stp} (h : RoadB b (ss ++ us)) (h0 : 0 ≤ n) (h1 : n ≤ 10 ^ 60 - 1) : RoadB b (ss ++ .bound n :: us) := by
  refine RoadB.of fun i s e => ?_
  by_cases z : i < ss.length
  · rw [List.getElem?_append_left z] at e
    have := h.at_ (i := i) (s := s) (by rw [List.getElem?_append_left z]; exact e)
    rw [List.take_append_of_le_length (by omega)] at this ⊢
    exact this
  · rw [List.getElem?_append_right (by omega)] at e
    have et : (ss ++ Stp.bound n :: us).take i = ss ++ (Stp.bound n :: us).take (i - ss.length) := by
      rw [List.take_append, List.take_of_length_le (by omega)]
    rw [et]
    cases hj : i - ss.length with
    | zero =>
      rw [hj] at e
      have : s = .bound n := by simpa using e.symm
      rw [this]
      exact ⟨h0, h1⟩
    | succ j =>
      rw [hj] at e
      have e : us[j]? = some s := by simpa using e
      rw [List.take_succ_cons, onL_mid]
      have := h.at_ (i := ss.length + j) (s := s) (by rw [List.getElem?_append_right (by omega)]; simpa using e)
      rw [List.take_append, List.take_of_length_le (by omega)] at this
      simpa using this
/-- a bound left out -/
theorem RoadB.cut {b n : Int} {ss us : List Stp} (h : RoadB b (ss ++ .bound n :: us)) : RoadB b (ss ++ us) := by
  refine RoadB.of fun i s e => ?_
  by_cases z : i < ss.length
  · rw [List.getElem?_append_left z] at e
    have := h.at_ (i := i) (s := s) (by rw [List.getElem?_append_left z]; exact e)
    rw [List.take_append_of_le_length (by omega)] at this ⊢
    exact this
  · rw [List.getElem?_append_right (by omega)] at e
    have := h.at_ (i := i + 1) (s := s) (by
      rw [List.getElem?_append_right (by omega)]
      have e2 : i + 1 - ss.length = (i - ss.length) + 1 := by omega
      rw [e2]
      simpa using e)
    have et : (ss ++ Stp.bound n :: us).take (i + 1) = ss ++ Stp.bound n :: us.take (i - ss.length) := by
      rw [List.take_append, List.take_of_length_le (by omega)]
      have e2 : i + 1 - ss.length = (i - ss.length) + 1 := by omega
      rw [e2, List.take_succ_cons]
    rw [et, onL_mid] at this
    rw [List.take_append, List.take_of_length_le (by omega)]
    exact this
/-- the places of bounds -/
def isBd (ss : List Stp) (i : Nat) : Bool := match ss[i]? with
  | some (.bound _) => true
  | _ => false
def whichL (ss : List Stp) (k : Nat) : List Int := ((List.range k).filter (isBd ss)).map fun (i : Nat) => (i : Int)
theorem whichL_succ (ss : List Stp) (k : Nat) : whichL ss (k + 1) = whichL ss k ++ (if isBd ss k = true then [(k : Int)] else []) := by
  unfold whichL
  rw [List.range_succ, List.filter_append, List.map_append]
  congr 1
  by_cases c : isBd ss k = true <;> simp [c]
theorem whichL_mem {ss : List Stp} {k : Nat} {x : Int} (h : x ∈ whichL ss k) : ∃ (i : Nat) (n : Int), x = (i : Nat) ∧ i < k ∧ ss[i]? = some (.bound n) := by
  unfold whichL at h
  obtain ⟨i, hi, rfl⟩ := List.mem_map.mp h
  obtain ⟨h1, h2⟩ := List.mem_filter.mp hi
  unfold isBd at h2
  cases e : ss[i]? with
  | none =>
    rw [e] at h2
    cases h2
  | some s =>
    rw [e] at h2
    cases s with
    | bound n => exact ⟨i, n, rfl, List.mem_range.mp h1, e⟩
    | push a => cases h2
    | pop => cases h2
theorem whichL_len (ss : List Stp) : ∀ k : Nat, (whichL ss k).length ≤ k
  | 0 => Nat.le_refl _
  | k + 1 => by
    rw [whichL_succ, List.length_append]
    have := whichL_len ss k
    split <;> simp <;> omega
theorem cut_mid {xs : List V} {i j : Nat} (hj : j ≤ xs.length) : cutV xs (some (i : Int)) (some (j : Int)) = (xs.drop i).take (j - i) := by
  unfold cutV
  rw [HT.sIx_nat, HT.sIx_nat, Nat.min_eq_left hj]
  by_cases z : i ≤ xs.length
  · rw [Nat.min_eq_left z]
  · rw [Nat.min_eq_right (by omega)]
    have e1 : xs.drop xs.length = [] := List.drop_length
    have e2 : xs.drop i = [] := List.drop_eq_nil_of_le (by omega)
    rw [e1, e2]
    simp
theorem MovesAt.drop {H : Hp} {xs : List V} {ss : List Stp} (h : MovesAt H xs ss) : ∀ i : Nat, MovesAt H (xs.drop i) (ss.drop i) := by
  induction h with
  | nil => intro i; simp; exact .nil
  | cons h r ih =>
    intro i
    cases i with
    | zero => exact .cons h r
    | succ i => exact ih i
theorem MovesAt.app {H : Hp} {xs ys : List V} {ss us : List Stp} (h : MovesAt H xs ss) (h2 : MovesAt H ys us) : MovesAt H (xs ++ ys) (ss ++ us) := by
  induction h with
  | nil => exact h2
  | cons h _ ih => exact .cons h ih
theorem MovesAt.eq {H : Hp} {xs ys : List V} {ss us : List Stp} (h : MovesAt H xs ss) (e : xs = ys) (e2 : ss = us) : MovesAt H ys us := by
  rw [← e, ← e2]
  exact h
theorem split_at {α : Type} {ws : List α} {i : Nat} {a : α} (h : ws[i]? = some a) : ws = ws.take i ++ a :: ws.drop (i + 1) := by
  rw [← drop_at h, List.take_append_drop]
theorem int_at {ns : List Int} {i : Nat} {x : V} (h : (ns.map V.int)[i]? = some x) : ∃ n, ns[i]? = some n ∧ x = .int n := by
  rw [List.getElem?_map] at h
  cases e : ns[i]? with
  | none =>
    rw [e] at h
    cases h
  | some n =>
    rw [e] at h
    exact ⟨n, rfl, (Option.some.inj h).symm⟩
theorem which_reach (b : Int) (ss : List Stp) : ∀ k : Nat, (reachL b ss k).map (·.1) = whichL ss k
  | 0 => rfl
  | k + 1 => by
    rw [reachL_succ, whichL_succ, List.map_append, which_reach b ss k]
    congr 1
    unfold reachAt isBd
    cases ss[k]? with
    | none => simp
    | some s => cases s <;> simp
theorem reach_mem {b : Int} {ss : List Stp} {k : Nat} {z : Int × Int} (h : z ∈ reachL b ss k) : ∃ (i : Nat) (m : Int), i < k ∧ ss[i]? = some (.bound m) ∧ z = ((i : Int), gwI b (onL (ss.take i)) m) := by
  unfold reachL at h
  obtain ⟨i, hi, e⟩ := List.mem_filterMap.mp h
  unfold reachAt at e
  cases es : ss[i]? with
  | none => rw [es] at e; cases e
  | some s =>
    rw [es] at e
    cases s with
    | bound m => exact ⟨i, m, List.mem_range.mp hi, es, (Option.some.inj e).symm⟩
    | push a => cases e
    | pop => cases e
theorem mem_reach {b : Int} {ss : List Stp} {i : Nat} {m : Int} (es : ss[i]? = some (.bound m)) : ((i : Int), gwI b (onL (ss.take i)) m) ∈ reachL b ss ss.length := by
  unfold reachL
  refine List.mem_filterMap.mpr ⟨i, List.mem_range.mpr (List.getElem?_eq_some_iff.mp es).1, ?_⟩
  unfold reachAt
  rw [es]
/-- the others -/
def othL (ps : List (Int × Int)) (i : Int) : List (Int × Int) := ps.filter fun z => !decide (z.1 = i)
noncomputable def idleL (b : Int) (ss : List Stp) : List Int := (whichL ss ss.length).filter fun i => decide (leastL (othL (reachL b ss ss.length) i) = leastL (reachL b ss ss.length))
theorem least_sub {ps qs : List (Int × Int)} (h : ∀ z ∈ qs, z ∈ ps) : leastL ps ≤ leastL qs := by
  obtain ⟨g1, g2, g3⟩ := least_fold (ps.map (·.2)) (10 ^ 60 - 1)
  obtain ⟨f1, f2, f3⟩ := least_fold (qs.map (·.2)) (10 ^ 60 - 1)
  rcases f3 with f3 | f3
  · show _ ≤ leastL qs
    unfold leastL
    rw [f3]
    exact g1
  · obtain ⟨z, hz, e⟩ := List.mem_map.mp f3
    have := g2 z.2 (List.mem_map.mpr ⟨z, h z hz, rfl⟩)
    show leastL ps ≤ leastL qs
    unfold leastL
    rw [← e]
    exact this
theorem least_top (ps : List (Int × Int)) : leastL ps ≤ 10 ^ 60 - 1 := (least_fold (ps.map (·.2)) (10 ^ 60 - 1)).1
theorem least_of {ps : List (Int × Int)} {z : Int × Int} (h : z ∈ ps) : leastL ps ≤ z.2 := (least_fold (ps.map (·.2)) (10 ^ 60 - 1)).2.1 z.2 (List.mem_map.mpr ⟨z, h, rfl⟩)
/-- without the bound at i -/
def dropB (ss : List Stp) (i : Nat) : List Stp := ss.take i ++ ss.drop (i + 1)
theorem fits_drop {b n : Int} {ss : List Stp} {i : Nat} {m : Int} (es : ss[i]? = some (.bound m)) : fitsP b (dropB ss i) n ↔ ∀ j y, j ≠ i → ss[j]? = some (.bound y) → grS b (onL (ss.take j)) n ≤ y := by
  have hi : i < ss.length := (List.getElem?_eq_some_iff.mp es).1
  have lt : (ss.take i).length = i := by rw [List.length_take]; omega
  have e0 := split_at es
  constructor
  · intro h j y hj ey
    by_cases z : j < i
    · have := h j y (by unfold dropB; rw [List.getElem?_append_left (by omega), List.getElem?_take, if_pos z]; exact ey)
      unfold dropB at this
      rw [List.take_append_of_le_length (by omega), List.take_take, Nat.min_eq_left (by omega)] at this
      exact this
    · have zj : j = (j - 1) + 1 := by omega
      have := h (j - 1) y (by
        unfold dropB
        rw [List.getElem?_append_right (by omega), lt, List.getElem?_drop]
        have : i + 1 + (j - 1 - i) = j := by omega
        rw [this]
        exact ey)
      unfold dropB at this
      rw [List.take_append, List.take_of_length_le (by omega), lt, ← onL_mid (ss.take i) _ m] at this
      have e : ss.take j = ss.take i ++ .bound m :: (ss.drop (i + 1)).take (j - 1 - i) := by
        conv => lhs; rw [e0]
        rw [List.take_append, List.take_of_length_le (by omega), lt]
        have : j - i = (j - 1 - i) + 1 := by omega
        rw [this, List.take_succ_cons]
      rw [e]
      exact this
  · intro h j y ey
    unfold dropB at ey ⊢
    by_cases z : j < i
    · rw [List.getElem?_append_left (by omega), List.getElem?_take, if_pos z] at ey
      rw [List.take_append_of_le_length (by omega), List.take_take, Nat.min_eq_left (by omega)]
      exact h j y (by omega) ey
    · rw [List.getElem?_append_right (by omega), lt, List.getElem?_drop] at ey
      have ej : i + 1 + (j - i) = j + 1 := by omega
      rw [ej] at ey
      have := h (j + 1) y (by omega) ey
      rw [List.take_append, List.take_of_length_le (by omega), lt, ← onL_mid (ss.take i) _ m]
      have e : ss.take (j + 1) = ss.take i ++ .bound m :: (ss.drop (i + 1)).take (j - i) := by
        conv => lhs; rw [e0]
        rw [List.take_append, List.take_of_length_le (by omega), lt]
        have : j + 1 - i = (j - i) + 1 := by omega
        rw [this, List.take_succ_cons]
      rw [← e]
      exact this
theorem idle_iff {b : Int} {ss : List Stp} (ag : AllG b ss) {i : Nat} {m : Int} (es : ss[i]? = some (.bound m)) (hl : leastL (reachL b ss ss.length) ≠ 10 ^ 60 - 1) :
    leastL (othL (reachL b ss ss.length) (i : Int)) = leastL (reachL b ss ss.length) ↔ ¬ fitsP b (dropB ss i) (leastL (reachL b ss ss.length) + 1) := by
  have rg := least_range ag
  have sub : leastL (reachL b ss ss.length) ≤ leastL (othL (reachL b ss ss.length) (i : Int)) := least_sub fun z hz => (List.mem_filter.mp hz).1
  rw [fits_drop es]
  constructor
  · intro e h
    obtain ⟨g1, g2, g3⟩ := least_fold ((othL (reachL b ss ss.length) (i : Int)).map (·.2)) (10 ^ 60 - 1)
    rcases g3 with g3 | g3
    · apply hl
      rw [← e]
      exact g3
    · obtain ⟨z, hz, ez⟩ := List.mem_map.mp g3
      have ez : z.2 = leastL (othL (reachL b ss ss.length) (i : Int)) := ez
      obtain ⟨h1, h2⟩ := List.mem_filter.mp hz
      obtain ⟨j, y, hj, ey, rfl⟩ := reach_mem h1
      have nj : j ≠ i := fun q => by simp [q] at h2
      have h3 := ((ag j y ey).2.2 _ (by omega)).mp (h j y nj ey)
      have h4 : gwI b (onL (ss.take j)) y = leastL (othL (reachL b ss ss.length) (i : Int)) := ez
      omega
  · intro h
    refine Classical.byContradiction fun ne => h fun j y nj ey => ?_
    have z1 : ((j : Int), gwI b (onL (ss.take j)) y) ∈ othL (reachL b ss ss.length) (i : Int) := List.mem_filter.mpr ⟨mem_reach ey, by
      have : ¬ (j : Int) = (i : Int) := by omega
      simp [this]⟩
    have z2 : leastL (othL (reachL b ss ss.length) (i : Int)) ≤ gwI b (onL (ss.take j)) y := least_of z1
    exact ((ag j y ey).2.2 _ (by omega)).mpr (by omega)
theorem idle_top {b : Int} {ss : List Stp} (hl : leastL (reachL b ss ss.length) = 10 ^ 60 - 1) : idleL b ss = whichL ss ss.length := by
  unfold idleL
  refine List.filter_eq_self.mpr fun i _ => ?_
  have h1 : leastL (reachL b ss ss.length) ≤ leastL (othL (reachL b ss ss.length) i) := least_sub fun z hz => (List.mem_filter.mp hz).1
  have h2 := least_top (othL (reachL b ss ss.length) i)
  rw [decide_eq_true_iff]
  omega
/-- an idle bound left out: what fits stays -/
theorem idle_same {b : Int} {ss : List Stp} (ag : AllG b ss) {i : Nat} {m : Int} (es : ss[i]? = some (.bound m)) (ag2 : AllG b (dropB ss i)) (hi : leastL (othL (reachL b ss ss.length) (i : Int)) = leastL (reachL b ss ss.length)) :
    leastL (reachL b (dropB ss i) (dropB ss i).length) = leastL (reachL b ss ss.length) := by
  have r1 := least_range ag
  have r2 := least_range ag2
  have key : ∀ n, 0 ≤ n → n ≤ 10 ^ 60 - 1 → (fitsP b (dropB ss i) n ↔ fitsP b ss n) := fun n n0 n1 => by
    rw [fits_drop es]
    constructor
    · intro h
      rw [least_fits ag n0 n1]
      refine Classical.byContradiction fun c => ?_
      by_cases hl : leastL (reachL b ss ss.length) = 10 ^ 60 - 1
      · omega
      · refine (idle_iff ag es hl).mp hi ?_
        rw [fits_drop es]
        intro j y nj ey
        have h1 := ((ag j y ey).2.2 n n0).mp (h j y nj ey)
        exact ((ag j y ey).2.2 _ (by omega)).mpr (by omega)
    · intro h j y _ ey
      exact h j y ey
  have k2 : ∀ n, 0 ≤ n → n ≤ 10 ^ 60 - 1 → (n ≤ leastL (reachL b (dropB ss i) (dropB ss i).length) ↔ n ≤ leastL (reachL b ss ss.length)) := fun n n0 n1 => by
    rw [← least_fits ag2 n0 n1, ← least_fits ag n0 n1]
    exact key n n0 n1
  generalize leastL (reachL b ss ss.length) = x at r1 k2
  generalize leastL (reachL b (dropB ss i) (dropB ss i).length) = y at r2 k2
  by_cases z : y < x
  · have := (k2 x (by omega) r1.2).mpr (Int.le_refl x)
    omega
  · by_cases z2 : x < y
    · have := (k2 y (by omega) r2.2).mp (Int.le_refl y)
      omega
    · omega
def spIdle (K : PySem.W.Frag) : Sp := fun vs H Q _ => ∃ (r : Addr) (ss : List Stp) (b : Int), vs = [.ref r] ∧ RoadAt K H r b ss ∧ ∀ q H', H q = none → AllG b ss → Same H H' → H' q = some (.tup ((idleL b ss).map V.int)) → Q (.ref q) H'
section
variable {P : Program} {w : World} {K : PySem.W.Frag} {mg : Str → Option Value} {base : Heap}
theorem ok_Road_idle (T : Tx w K mg) : PromM P w K mg base CX0 8 "Road" "idle" ["self"] (spIdle K) := by
  refine PromM.of T.cl_Road T.me_Road_idle T.dm_Road_idle sc_Road_idle (fun vs H Q E h => ?_) (fun _ _ _ _ _ _ us hl => match us, hl with | [_], _ => rfl) (fun f cdv A outer s H vs Q E hr h => ?_)
  · obtain ⟨r, ss, b, rfl, _⟩ := h
    rfl
  · obtain ⟨r, ss, b, rfl, hR, k⟩ := h
    obtain ⟨dx, t, q, xs, h1, h2, h3, h4⟩ := hR.at_
    have rl := reachL_len b ss ss.length
    have len := hR.len
    refine ⟨_, (pss_cons (ps_set (i := 1) sc_Road_idle.nd rfl (Or.inl rfl) (pe_callP (ok_reaches T) (hr.mono (by decide)) (by rfl) pass0 (pa_cons (pe_fld (pv 0) rfl) (pa_cons (pe_fld (pv 0) rfl) pa_nil))))
      (pss_cons (ps_par (i := 2) (j := 3) (by rfl) sc_Road_idle.nd rfl rfl (by decide) rfl rfl (pa_cons (pe_callP (ok_least_reach T) (hr.mono (by decide)) (by rfl) pass0 (pa_cons (pv 1) pa_nil)) (pa_cons (pe_lst pa_nil) pa_nil)) (by rfl))
      (pss_cons (ps_for PassesOwn.never (by rfl) (pi_list (pv 1)) (pg_tup rfl (pgs_cons (pg_name (i := 4) sc_Road_idle.nd rfl (Or.inr rfl)) (pgs_cons (pg_name (i := 5) sc_Road_idle.nd rfl (Or.inl rfl)) pgs_nil))) (pss_one (ps_if (pt_cmp (pc_eqI (pe_callP (ok_least_reach T) (hr.mono (by decide)) (by rfl) pass0 (pa_cons (pe_lc (own := [("pair", 6)]) (g := (gName 6)) (by rfl) sc_Road_idle.nd (pi_list (pv 1)) (blkOk_by (own := [("pair", 6)]) (N := ["self", "pairs", "least", "found", "place", "most", "pair"]) (sc := defScope s_Road_idle) (by decide +kernel)) (fun _ _ _ _ _ => (pg_name (i := 6) sc_Road_idle.nd rfl (Or.inl rfl))) (fun _ _ _ _ _ => pts_one (pt_cmp (pc_neI (pe_ix (show IxR _ (rIxT K) from ix_tup) (pv 6) pe_int (fun _ _ => rfl)) (pv 4)))) (fun _ _ _ _ _ => (pv 6))) pa_nil)) (pv 2))) (pss_one (ps_expr (pe_bm PySem.F.plainAttrs_list PySem.F.slot_list_append PySem.F.type_list_append mt_append (pv 3) (pa_cons (pv 4) pa_nil)))) pss_nil)))
      (pss_one (ps_ret (pe_callTy call_tuple_of (by rfl) T.b_tuple (by decide +kernel) (pa_cons (pv 3) pa_nil))))))), ?_⟩
    refine ⟨_, rfl, r, _, dx, _, _, rfl, h1, T.cl_Road, T.na_Road_base, rfl, _, rfl, r, _, dx, _, _, rfl, h1, T.cl_Road, T.na_Road_steps, rfl, t, xs, ss, b, rfl, h2, h3, hR.rb, hR.len, hR.b0, hR.b1, fun l ys H1 nl ag s1 hl hy => ?_⟩
    refine ⟨_, rfl, l, ys, _, rfl, hl, hy, by omega, fun H2 s2 => ⟨Nat.zero_le _, fun lf hlf => ⟨_, _, rfl, ?_⟩⟩⟩
    have s3 := s2.trans (up (o := .lst []) hlf)
    have hl3 := s3 _ _ hl
    have hy3 := hy.same s3
    have nlf : H lf = none := same_before (s1.trans s2) hlf
    have hf3 : (upd H2 lf (.lst [])) lf = some (.lst []) := upd_same
    have e3 : Same H (upd H2 lf (.lst [])) := s1.trans s3
    have nll : l ≠ lf := ne_of_none (s2 _ _ hl) hlf
    generalize (upd H2 lf (.lst [])) = H3 at s3 hl3 hy3 hf3 e3 ⊢
    have ei : idleL b ss = (((reachL b ss ss.length).filter fun a => decide (leastL (othL (reachL b ss ss.length) a.1) = leastL (reachL b ss ss.length))).map (·.1)) := by
      unfold idleL
      rw [← which_reach b ss ss.length, List.filter_map]
      rfl
    have k := fun q H' h s e => k q H' h ag s e
    rw [ei] at k
    generalize leastL (reachL b ss ss.length) = m at k ⊢
    generalize reachL b ss ss.length = ps at rl hy3 k ⊢
    have hyl := hy3.len
    refine ⟨_, rfl, l, rfl, ⟨_, SqL.of hl3⟩, for_list (K := K) (a := l) (xs := ys) (fun i σ H' => Same H H' ∧ H' l = some (.lst ys) ∧ PairsAt H' ys ps ∧ H' lf = some (.lst ((((ps.take i).filter fun a => decide (leastL (othL ps a.1) = m)).map (·.1)).map V.int)) ∧ ∃ v1 v2, σ = [some (.ref r), some (.ref l), some (.int m), some (.ref lf), v1, v2, none])
      ⟨e3, hl3, hy3, hf3, none, none, rfl⟩ (fun i σ H' _ h => SqL.of h.2.1) ?_ ?_⟩
    · rintro i x σ H' hi ⟨hs, hl', hy', hf', v1, v2, rfl⟩
      obtain ⟨u, a, rfl, ha, hu⟩ := hy'.get hi
      have hil : i < ps.length := (List.getElem?_eq_some_iff.mp ha).1
      have et : ps.take (i + 1) = ps.take i ++ [a] := by
        rw [List.take_succ, ha]
        rfl
      refine ⟨u, _, rfl, SqT.of hu, rfl, _, _, rfl, _, _, rfl, rfl, ?_⟩
      refine ⟨_, rfl, l, rfl, ⟨_, SqL.of hl'⟩, fun D hD => ?_⟩
      have eo : ∀ j, (ps.take j).filter (fun z => !decide (z.1 = a.1)) = othL (ps.take j) a.1 := fun j => rfl
      refine lc_list (K := K) (a := l) (xs := ys) (Pv := fun j H2 => Same H' H2 ∧ ∃ zs, H2 D = some (.lst zs) ∧ PairsAt H2 zs (othL (ps.take j) a.1) ∧ zs.length ≤ j) ⟨up hD, [], upd_same, .nil, Nat.le_refl _⟩ (fun j H2 _ h => SqL.of (h.1 _ _ hl')) ?_ ?_
      · rintro j x H2 hj ⟨hs2, zs, hd, hz, zl⟩
        obtain ⟨u2, a2, rfl, ha2, hu2⟩ := (hy'.same hs2).get hj
        have hjl : j < ps.length := (List.getElem?_eq_some_iff.mp ha2).1
        have et2 : othL (ps.take (j + 1)) a.1 = othL (ps.take j) a.1 ++ othL [a2] a.1 := by
          unfold othL
          rw [List.take_succ, ha2, List.filter_append]
          rfl
        refine ⟨rfl, _, rfl, u2, _, _, _, rfl, rfl, SqT.of hu2, rfl, _, rfl, _, _, rfl, rfl, _, rfl, ifn (fun c => ?_) (fun c => ?_)⟩
        · have c : ¬ a2.1 = a.1 := c
          refine ⟨_, rfl, zs, hd, ?_, fun y o e => ?_, zs ++ [.ref u2], upd_same, ?_, ?_⟩
          · rw [sizeLine_eq]
            omega
          · rw [upd_ne (ne_of_none e hD)]
            exact hs2 _ _ e
          · rw [et2]
            have e1 : othL [a2] a.1 = [a2] := by
              unfold othL
              simp [c]
            rw [e1]
            exact (hz.snoc hu2).put hd
          · rw [List.length_append, List.length_singleton]
            omega
        · have c : a2.1 = a.1 := c
          refine ⟨hs2, zs, hd, ?_, by omega⟩
          rw [et2]
          have e1 : othL [a2] a.1 = [] := by
            unfold othL
            simp [c]
          rw [e1, List.append_nil]
          exact hz
      · rintro H2 ⟨hs2, zs, hd, hz, zl⟩
        rw [hyl, List.take_length] at hz
        have ol : (othL ps a.1).length ≤ 1000 := by
          unfold othL
          have := List.length_filter_le (fun z : Int × Int => !decide (z.1 = a.1)) ps
          omega
        refine ⟨D, zs, _, rfl, hd, hz, ol, fun H4 s4 => ⟨_, rfl, _, _, rfl, rfl, _, rfl, ?_⟩⟩
        have s5 := hs2.trans s4
        have hf5 := s5 _ _ hf'
        refine ifd (fun c => ?_) (fun c => ?_)
        · have c : leastL (othL ps a.1) = m := c
          refine ⟨_, rfl, .inl ⟨rfl, _, SqL.of hf5⟩, _, rfl, lf, _, _, rfl, rfl, hf5, ?_, fun y o e => ?_, ?_, ?_, ?_, _, _, rfl⟩
          · rw [List.length_map, List.length_map, sizeLine_eq]
            have h1 := List.length_filter_le (fun a : Int × Int => decide (leastL (othL ps a.1) = m)) (ps.take i)
            have h2 := List.length_take_le' i ps
            omega
          · rw [upd_ne (ne_of_none e nlf)]
            exact s5 _ _ (hs _ _ e)
          · rw [upd_ne nll]
            exact s5 _ _ hl'
          · exact (hy'.same s5).put hf5
          · rw [upd_same, et, List.filter_append, List.map_append, List.map_append]
            simp [c]
        · have c : ¬ leastL (othL ps a.1) = m := c
          refine ⟨hs.trans s5, s5 _ _ hl', hy'.same s5, ?_, _, _, rfl⟩
          rw [hf5, et, List.filter_append]
          simp [c]
    · rintro σ H' ⟨hs, hl', hy', hf', v1, v2, rfl⟩
      rw [hyl, List.take_length] at hf'
      exact ⟨_, rfl, lf, _, rfl, .inl ⟨SqL.of hf', fun t7 ht7 => k t7 _ (same_before hs ht7) (hs.trans (up ht7)) upd_same⟩⟩
end
/-! ### wraps and stacks that are equal -/
def EqW (K : PySem.W.Frag) : Addr → Addr → Hp → Prop := fun a b H => ∃ x, WrapAt K H a x ∧ WrapAt K H b x
def EqS (K : PySem.W.Frag) : Addr → Addr → Hp → Prop := fun a b H => ∃ r ws, StkAt K H a r ws ∧ StkAt K H b r ws
theorem EqW.mon {K : PySem.W.Frag} : ∀ a b H H', Ext H H' → EqW K a b H → EqW K a b H' := fun a b H H' e ⟨x, h1, h2⟩ => ⟨x, h1.same e, h2.same e⟩
theorem EqS.mon {K : PySem.W.Frag} : ∀ a b H H', Ext H H' → EqS K a b H → EqS K a b H' := fun a b H H' e ⟨r, ws, h1, h2⟩ => ⟨r, ws, h1.same e, h2.same e⟩
theorem WrapsAt.prs {K : PySem.W.Frag} {H : Hp} {xs ys : List V} {ws : List Wr} (h : WrapsAt K H xs ws) : WrapsAt K H ys ws → Prs (DIns (He.ga K "Wrap") (EqW K)) xs ys H := by
  induction h generalizing ys with
  | nil =>
    intro h2
    cases h2
    exact Prs.nil
  | cons h _ ih =>
    intro h2
    cases h2 with
    | cons h' r' =>
      obtain ⟨dx, p, g1, g2⟩ := id h
      obtain ⟨dy, p', g3, g4⟩ := id h'
      exact Prs.cons ⟨_, _, dx, dy, _, _, rfl, rfl, g1, g3, _, h, h'⟩ (ih r')
section
variable {P : Program} {w : World} {K : PySem.W.Frag} {mg : Str → Option Value} {base : Heap}
theorem ok_Wrap___eq__ (T : Tx w K mg) : PromM P w K mg base CX0 1 "Wrap" "__eq__" ["self", "other"] (spEq (EqW K)) := by
  refine PromM.of T.cl_Wrap T.me_Wrap___eq__ T.dm_Wrap___eq__ sc_Wrap___eq__ (fun vs H Q E h => ?_) (fun _ _ _ _ _ _ us hl => match us, hl with | [_, _], _ => rfl) (fun f cdv A outer s H vs Q E hr h => ?_)
  · obtain ⟨a, b, rfl, _⟩ := h
    rfl
  · obtain ⟨a, b, rfl, ⟨x, ⟨dx, p, h1, h2⟩, dy, p', h3, h4⟩, k⟩ := h
    refine ⟨_, (pss_one (ps_ret (pe_and (pe_callB call_isi (by rfl) T.b_isinstance (by decide +kernel) (pa_cons (pv 1) (pa_cons (pe_glob (v := .ref _) (by rfl) T.k_Wrap rfl) pa_nil))) (pe_and (pe_cmpR op_eq (pe_fld (pv 0) rfl) (pe_fld (pv 1) rfl) (nomark _)) (pe_one (pe_cmpR (op_eqD hr.units) (pe_fld (pv 0) rfl) (pe_fld (pv 1) rfl) (nomark _))))))), ?_⟩
    refine ⟨_, rfl, _, _, _, _, true, rfl, .own _, T.is_Wrap.ty h3, kit_self, true, rfl, iteT ?_⟩
    refine ⟨_, rfl, a, _, dx, _, _, rfl, h1, T.cl_Wrap, T.na_Wrap_kind, rfl, _, rfl, b, _, dy, _, _, rfl, h3, T.cl_Wrap, T.na_Wrap_kind, rfl, rfl, _, rfl, ifd_pos rfl ?_⟩
    refine ⟨_, rfl, a, _, dx, _, _, rfl, h1, T.cl_Wrap, T.na_Wrap_numbers, rfl, _, rfl, b, _, dy, _, _, rfl, h3, T.cl_Wrap, T.na_Wrap_numbers, rfl, ?_⟩
    refine ⟨_, _, .tup (SqT.of h2) (dp_ints _), .tup (SqT.of h4) (dp_ints _), (shp_ints_t _).shaped, (shp_ints_t _).shaped, ?_⟩
    rw [SeqAt.eqv_refl]
    · exact k _ Ext.rfl'
    · exact (shp_ints_t _).lay
theorem ok_Stack___eq__ (T : Tx w K mg) : PromM P w K mg base CX0 3 "Stack" "__eq__" ["self", "other"] (spEq (EqS K)) := by
  refine PromM.of T.cl_Stack T.me_Stack___eq__ T.dm_Stack___eq__ sc_Stack___eq__ (fun vs H Q E h => ?_) (fun _ _ _ _ _ _ us hl => match us, hl with | [_, _], _ => rfl) (fun f cdv A outer s H vs Q E hr h => ?_)
  · obtain ⟨a, b, rfl, _⟩ := h
    rfl
  · obtain ⟨a, b, rfl, ⟨x, ws, ⟨dx, t, xs, h1, h2, hw⟩, dy, t', ys, h3, h4, hw'⟩, k⟩ := h
    refine ⟨_, (pss_one (ps_ret (pe_and (pe_callB call_isi (by rfl) T.b_isinstance (by decide +kernel) (pa_cons (pv 1) (pa_cons (pe_glob (v := .ref _) (by rfl) T.k_Stack rfl) pa_nil))) (pe_and (pe_cmp (pc_eqI (pe_fld (pv 0) rfl) (pe_fld (pv 1) rfl))) (pe_one (pe_cmpR (op_eqG (rcG_tup (mon_ins EqW.mon) (eqG_insP (ok_Wrap___eq__ T) pass0)) (hr.mono (by decide))) (pe_fld (pv 0) rfl) (pe_fld (pv 1) rfl) (nomark _))))))), ?_⟩
    refine ⟨_, rfl, _, _, _, _, true, rfl, .own _, T.is_Stack.ty h3, kit_self, true, rfl, iteT ?_⟩
    refine ⟨_, rfl, a, _, dx, _, _, rfl, h1, T.cl_Stack, T.na_Stack_base, rfl, _, rfl, b, _, dy, _, _, rfl, h3, T.cl_Stack, T.na_Stack_base, rfl, _, _, rfl, rfl, _, rfl, ifd_pos rfl ?_⟩
    refine ⟨_, rfl, a, _, dx, _, _, rfl, h1, T.cl_Stack, T.na_Stack_wraps, rfl, _, rfl, b, _, dy, _, _, rfl, h3, T.cl_Stack, T.na_Stack_wraps, rfl, ?_⟩
    exact ⟨⟨t, t', xs, ys, rfl, rfl, SqT.of h2, SqT.of h4, hw.prs hw'⟩, k⟩
end
/-! ### texts of wraps and stacks -/
theorem nums_two (a : Wr) : a.nums.length ≤ 2 := by cases a <;> simp [Wr.nums]
theorem text_len {a : Wr} (h : a.ok) : a.text.length ≤ 200 := by
  have h1 := join_len (sep := (" " : Str)) (ys := a.kind :: a.nums.map fun i => (toString i : Str))
  have h2 := sum_short a.nums fun z hz => by have := nums_small h z hz; omega
  have h3 := kind_len a
  have h4 := nums_two a
  have h5 : (" " : Str).length = 1 := by decide
  unfold Wr.text
  simp only [List.map_cons, List.sum_cons, List.length_cons, List.length_map] at h1
  rw [h5] at h1
  omega
def baseText (b : Int) : Str := Str.empty ++ "base " ++ (toString b : Str)
def stkText (b : Int) (ws : List Wr) : Str := Txt.join "\n" (baseText b :: ws.map Wr.text)
theorem small_text {b : Int} (h0 : 0 ≤ b) (h1 : b ≤ 256) : (toString b : Str).length ≤ 4 := by
  have h := int_text_length_le10 (k := 3) (a := b) (by decide) (by omega)
  have e : (Str.ofString (toString b)).length = (toString b : String).length := PySem.ofString_length _
  show (Str.ofString (toString b)).length ≤ 4
  omega
theorem texts_sum : ∀ {ws : List Wr}, (∀ a ∈ ws, a.ok) → ((ws.map Wr.text).map (·.length)).sum ≤ 200 * ws.length
  | [], _ => by simp
  | a :: ws, h => by
    have h1 := texts_sum (ws := ws) fun x hx => h x (List.mem_cons_of_mem _ hx)
    have h2 := text_len (h a (List.mem_cons_self ..))
    simp only [List.map_cons, List.sum_cons, List.length_cons]
    omega
def spWStr (K : PySem.W.Frag) : Sp := fun vs H Q _ => ∃ (q : Addr) (a : Wr), vs = [.ref q] ∧ WrapAt K H q a ∧ a.ok ∧ Q (.str a.text) H
def spSStr (K : PySem.W.Frag) : Sp := fun vs H Q _ => ∃ (q : Addr) (b : Int) (ws : List Wr), vs = [.ref q] ∧ StkAt K H q b ws ∧ StkOk b ws ∧ ∀ H', Same H H' → Q (.str (stkText b ws)) H'
section
variable {P : Program} {w : World} {K : PySem.W.Frag} {mg : Str → Option Value} {base : Heap}
theorem ok_Wrap___str__ (T : Tx w K mg) : PromM P w K mg base CX0 1 "Wrap" "__str__" ["self"] (spWStr K) := by
  refine PromM.of T.cl_Wrap T.me_Wrap___str__ T.dm_Wrap___str__ sc_Wrap___str__ (fun vs H Q E h => ?_) (fun _ _ _ _ _ _ us hl => match us, hl with | [_], _ => rfl) (fun f cdv A outer s H vs Q E hr h => ?_)
  · obtain ⟨q, a, rfl, _⟩ := h
    rfl
  · obtain ⟨q, a, rfl, ⟨dx, p, h1, h2⟩, ok, k⟩ := h
    have tl := text_len ok
    refine ⟨_, (pss_one (ps_ret (pe_joined1 (pe_fmt (pe_fld (pv 0) rfl))))), ?_⟩
    exact ⟨_, rfl, q, _, dx, _, _, rfl, h1, T.cl_Wrap, T.na_Wrap_words, rfl, .inl ⟨_, rfl, by rw [sizeLine_eq]; omega, k⟩⟩
theorem ok_Stack___str__ (T : Tx w K mg) : PromM P w K mg base CX0 3 "Stack" "__str__" ["self"] (spSStr K) := by
  refine PromM.of T.cl_Stack T.me_Stack___str__ T.dm_Stack___str__ sc_Stack___str__ (fun vs H Q E h => ?_) (fun _ _ _ _ _ _ us hl => match us, hl with | [_], _ => rfl) (fun f cdv A outer s H vs Q E hr h => ?_)
  · obtain ⟨q, b, ws, rfl, _⟩ := h
    rfl
  · obtain ⟨q, b, ws, rfl, ⟨dx, t, xs, hq, ht, hw⟩, so, k⟩ := h
    have hlx := hw.len
    have l6 := so.len
    have bl := small_text (b := b) (by have := so.b0; omega) so.b1
    have e5 : (Str.empty ++ ("base " : Str)).length = 5 := by decide
    have el : (baseText b).length ≤ 9 := by
      show (Str.empty ++ ("base " : Str) ++ (toString b : Str)).length ≤ 9
      rw [PySem.Str.length_append]
      omega
    refine ⟨_, (pss_one (ps_ret (pe_join pe_str (pe_lst (pa_cons (pe_joined (PJ.cons pe_str (PJ.cons (pe_fmt (pe_fld (pv 0) rfl)) PJ.nil))) (StX.pa_star (pe_lc (own := [("wrap", 1)]) (g := (gName 1)) (tt := tYes) (by rfl) sc_Stack___str__.nd (pi_tup (pe_fld (pv 0) rfl)) (blkOk_by (own := [("wrap", 1)]) (N := ["self", "wrap"]) (sc := defScope s_Stack___str__) (by decide +kernel)) (fun _ _ _ _ _ => (pg_name (i := 1) sc_Stack___str__.nd rfl (Or.inl rfl))) (fun _ _ _ _ _ => pts_nil) (fun _ _ _ _ _ => (pe_joined1 (show PE _ _ (tFmtO (He.ga K "Wrap") _ _ _) from (pe_fmtO T.st_Wrap (ok_Wrap___str__ T) (hr.mono (by decide)) pass0 (pv 1)))))) pa_nil)))))), ?_⟩
    refine ⟨⟨_, rfl⟩, _, rfl, by rw [e5]; decide, _, rfl, q, _, dx, _, _, rfl, hq, T.cl_Stack, T.na_Stack_base, rfl, .inr ⟨b, rfl, log2_small (by have := so.b0; omega) (by have := so.b1; omega), _, rfl, ?_, ?_⟩⟩
    · show (baseText b).length ≤ sizeLine
      rw [sizeLine_eq]
      omega
    refine ⟨_, rfl, q, _, dx, _, _, rfl, hq, T.cl_Stack, T.na_Stack_wraps, rfl, t, rfl, ⟨_, SqT.of ht⟩, fun D hD => ?_⟩
    refine lc_tup (K := K) (a := t) (xs := xs) (Pv := fun i H' => Same H H' ∧ H' D = some (.lst ((ws.take i).map fun z => V.str z.text))) ⟨up hD, upd_same⟩ (fun i H' _ h => SqT.of (h.1 _ _ ht)) ?_ ?_
    · rintro i y H' hi ⟨hs, hl⟩
      obtain ⟨r, a, rfl, ha, hw1⟩ := hw.get hi
      obtain ⟨dx2, p, g1, g2⟩ := hw1.same hs
      refine ⟨rfl, _, rfl, r, dx2, _, rfl, g1, r, a, rfl, ⟨dx2, p, g1, g2⟩, so.ok a (List.mem_of_getElem? ha), _, rfl, _, hl, ?_, fun z o e => ?_, ?_⟩
      · rw [List.length_map, List.length_take, sizeLine_eq]
        omega
      · rw [upd_ne (ne_of_none e hD)]
        exact hs _ _ e
      · rw [upd_same, List.take_succ, ha, List.map_append]
        rfl
    · rintro H' ⟨hs, hl⟩
      rw [hlx, List.take_length] at hl
      refine ⟨D, _, rfl, .inr (SqL.of hl), ?_, fun l hl2 => ?_⟩
      · simp
        rw [sizeLine_eq]
        omega
      have el2 : V.str (baseText b) :: (ws.map (fun z => V.str z.text) ++ []) = (baseText b :: ws.map Wr.text).map V.str := by simp
      refine ⟨_, l, baseText b :: ws.map Wr.text, rfl, rfl, .inl (SqL.of (by rw [← el2]; exact upd_same)), ?_, ?_⟩
      · have h1 := texts_sum so.ok
        have h2 : ("\n" : Str).length = 1 := by decide
        simp only [List.map_cons, List.sum_cons, List.length_cons, List.length_map] at h1 ⊢
        rw [h2]
        omega
      · exact k _ (hs.trans (up hl2))
end
/-! ### payloads, the stack of the wraps that are on -/
theorem StkOk.take {b : Int} {ws : List Wr} (so : StkOk b ws) (i : Nat) : StkOk b (ws.take i) :=
  ⟨so.b0, so.b1, fun a ha => so.ok a (List.mem_of_mem_take ha), by rw [List.length_take]; have := so.len; omega, Int.le_trans (fine_take so.ok i) so.fine⟩
def spPile (K : PySem.W.Frag) : Sp := fun vs H Q _ => ∃ (l : Addr) (xs : List V) (ss : List Stp) (b : Int), vs = [.ref l, .int b] ∧ H l = some (.lst xs) ∧ MovesAt H xs ss ∧ RoadB b ss ∧ 2 ≤ b ∧ b ≤ 256 ∧ ∀ q H', H q = none → Same H H' → StkAt K H' q b (onL ss) → Q (.ref q) H'
def spLReach (K : PySem.W.Frag) : Sp := fun vs H Q _ => ∃ (l : Addr) (xs : List V) (ss : List Stp) (b : Int), vs = [.ref l, .int b] ∧ H l = some (.lst xs) ∧ MovesAt H xs ss ∧ RoadB b ss ∧ ss.length ≤ 1000 ∧ 2 ≤ b ∧ b ≤ 256 ∧ ∀ q ys H', H q = none → AllG b ss → Same H H' → H' q = some (.lst ys) → PairsAt H' ys (reachL b ss ss.length) → Q (.ref q) H'
section
variable {P : Program} {w : World} {K : PySem.W.Frag} {mg : Str → Option Value} {base : Heap}
theorem ok_payload (T : Tx w K mg) : Prom P w K mg base CX0 6 "payload" s_payload ["stack", "bound"] (spWithin K) := by
  refine Prom.of T.d_payload sc_payload (fun vs H Q E h => ?_) (fun _ _ _ _ _ _ us hl => match us, hl with | [_, _], _ => rfl) (fun f cdv A outer s H vs Q E hr h => ?_)
  · obtain ⟨q, b, m, ws, rfl, _⟩ := h
    rfl
  · obtain ⟨q, b, m, ws, rfl, hS, so, m0, m1, k⟩ := h
    refine ⟨_, (pss_cons (ps_expr (pe_callP (ok_check_stack T) (hr.mono (by decide)) (by rfl) pass0 (pa_cons (pv 0) pa_nil)))
      (pss_cons (ps_expr (pe_callP (ok_check_length T) (hr.mono (by decide)) (by rfl) pass0 (pa_cons (pv 1) pa_nil)))
      (pss_one (ps_ret (pe_callP (ok_greatest_within T) (hr.mono (by decide)) (by rfl) pass0 (pa_cons (pv 0) (pa_cons (pv 1) pa_nil))))))), ?_⟩
    refine ⟨_, rfl, q, b, ws, rfl, hS, ?_⟩
    refine ⟨_, rfl, m, rfl, m0, m1, ?_⟩
    exact ⟨_, rfl, _, rfl, q, b, m, ws, rfl, hS, so, m0, m1, k⟩
theorem ok_L_pile (T : Tx w K mg) : Prom P w K mg base CX0 7 "_law_pile" s_L_pile ["_law_moves_here", "_law_b"] (spPile K) := by
  refine Prom.of T.d_L_pile sc_L_pile (fun vs H Q E h => ?_) (fun _ _ _ _ _ _ us hl => match us, hl with | [_, _], _ => rfl) (fun f cdv A outer s H vs Q E hr h => ?_)
  · obtain ⟨l, xs, ss, b, rfl, _⟩ := h
    rfl
  · obtain ⟨l, xs, ss, b, rfl, hl, hm, rb, b0, b1, k⟩ := h
    have so := rb.stk b0 b1
    refine ⟨_, (pss_cons (ps_set (i := 2) sc_L_pile.nd rfl (Or.inl rfl) (pe_newP (ok_Stack T) (hr.mono (by decide)) (by rfl) pass0 (pa_cons (pv 1) pa_nil)))
      (pss_cons (ps_for PassesOwn.never (by rfl) (pi_list (pe_callP (ok_L_on T) (hr.mono (by decide)) (by rfl) pass0 (pa_cons (pv 0) pa_nil))) (pg_name (i := 3) sc_L_pile.nd rfl (Or.inl rfl)) (pss_one (ps_set (i := 2) sc_L_pile.nd rfl (Or.inl rfl) (pe_op (op_addO T.ad_Stack_Wrap (ok_Stack___add__ T) (hr.mono (by decide)) pass0) (pv 2) (pe_callP (ok_L_made T) (hr.mono (by decide)) (by rfl) pass0 (pa_cons (pv 3) pa_nil))))))
      (pss_one (ps_ret (pv 2))))), ?_⟩
    refine ⟨_, rfl, b, [], [], rfl, StkOk.nil b0 b1, .nil, fun q0 H1 nq s1 st1 => ?_⟩
    refine ⟨_, rfl, l, xs, ss, b, rfl, s1 _ _ hl, hm.same s1, rb, b0, b1, fun lo ys H2 nlo s12 hlo tg => ?_⟩
    have s2 := s1.trans s12
    refine ⟨lo, rfl, ⟨_, SqL.of hlo⟩, for_list (K := K) (a := lo) (xs := ys) (fun i σ H' => Same H2 H' ∧ ∃ (q : Addr) (v : Option V), H q = none ∧ StkAt K H' q b ((onL ss).take i) ∧ σ = [some (.ref l), some (.int b), some (.ref q), v]) ⟨Same.refl H2, q0, none, nq, st1.same s12, rfl⟩ (fun i σ H' _ h => SqL.of (h.1 _ _ hlo)) ?_ ?_⟩
    · rintro i x σ H' hi ⟨hs, q, v, nq, st, rfl⟩
      obtain ⟨p, a, rfl, ha, hp⟩ := tg.get hi
      have hil : i < (onL ss).length := (List.getElem?_eq_some_iff.mp ha).1
      have et : (onL ss).take (i + 1) = (onL ss).take i ++ [a] := by
        rw [List.take_succ, ha]
        rfl
      have l6 := so.len
      have so2 := so.take (i + 1)
      rw [et] at so2
      refine ⟨_, rfl, _, rfl, p, a, rfl, hs _ _ hp, so.ok a (List.mem_of_getElem? ha), fun y H3 ny s3 wy => ?_⟩
      have st3 := st.same s3
      obtain ⟨dx, t, zs, g1, g2, g3⟩ := id st3
      obtain ⟨dy, t', g4, g5⟩ := id wy
      refine ⟨q, y, dx, _, dy, _, rfl, rfl, g1, g4, q, y, b, _, a, rfl, st3, wy, by rw [List.length_take]; omega, so2, fun q' H4 nq' s4 st4 => ?_⟩
      have s4 := (hs.trans s3).trans s4
      rw [← et] at st4
      exact ⟨s4, q', _, same_before (s2.trans (hs.trans s3)) nq', st4, rfl⟩
    · rintro σ H' ⟨hs, q, v, nq, st, rfl⟩
      rw [tg.len, List.take_length] at st
      exact ⟨_, rfl, k q H' nq (s2.trans hs) st⟩
theorem ok_L_reach (T : Tx w K mg) : Prom P w K mg base CX0 8 "_law_reach" s_L_reach ["_law_moves_here", "_law_b"] (spLReach K) := by
  refine Prom.of T.d_L_reach sc_L_reach (fun vs H Q E h => ?_) (fun _ _ _ _ _ _ us hl => match us, hl with | [_, _], _ => rfl) (fun f cdv A outer s H vs Q E hr h => ?_)
  · obtain ⟨l, xs, ss, b, rfl, _⟩ := h
    rfl
  · obtain ⟨l, xs, ss, b, rfl, hl, hm, rb, len, b0, b1, k⟩ := h
    have hlx := hm.len
    refine ⟨_, (pss_cons (ps_set (i := 2) sc_L_reach.nd rfl (Or.inl rfl) (pe_lst pa_nil))
      (pss_cons (ps_for PassesOwn.never (by rfl) (pi_range1 (by rfl) T.b_range (pa_cons (pe_callB call_len_seq (by rfl) T.b_len (by decide +kernel) (pa_cons (pv 0) pa_nil)) pa_nil)) (pg_name (i := 3) sc_L_reach.nd rfl (Or.inl rfl)) (pss_one (ps_if (pt_cmpR op_eq (pe_ix ix_tup (pe_ix ix_list (pv 0) (pv 3) (fun _ _ => rfl)) pe_int (fun _ _ => rfl)) pe_str (nomark _)) (pss_cons (ps_set (i := 4) sc_L_reach.nd rfl (Or.inl rfl) (pe_callP (ok_payload T) (hr.mono (by decide)) (by rfl) pass0 (pa_cons (pe_callP (ok_L_pile T) (hr.mono (by decide)) (by rfl) pass0 (pa_cons (pe_slice sl_list (pv 0) po_none (po_some (pv 3))) (pa_cons (pv 1) pa_nil))) (pa_cons (pe_ix ix_tup (pe_ix ix_list (pv 0) (pv 3) (fun _ _ => rfl)) pe_int (fun _ _ => rfl)) pa_nil))))
      (pss_one (ps_expr (pe_bm PySem.F.plainAttrs_list PySem.F.slot_list_append PySem.F.type_list_append mt_append (pv 2) (pa_cons (pe_tup (pa_cons (pv 3) (pa_cons (pe_ifExp (pt_cmpR op_isN (pv 4) pe_non (nomark _)) (pe_un un_neg pe_int) (pv 4)) pa_nil))) pa_nil))))) pss_nil)))
      (pss_one (ps_ret (pv 2))))), ?_⟩
    refine ⟨Nat.zero_le _, fun lf hlf => ?_⟩
    have e0 : ((xs.length : Nat) : Int).toNat = ss.length := by omega
    refine ⟨_, rfl, l, xs, rfl, .inl (SqL.of (up hlf _ _ hl)), _, rfl, by omega, by omega, ?_⟩
    rw [e0]
    refine for_range (lo := 0) (n := ss.length) (fun i σ H' => Same H H' ∧ (∀ j m, j < i → ss[j]? = some (.bound m) → IsG b (onL (ss.take j)) m (gwI b (onL (ss.take j)) m)) ∧ ∃ (ys : List V) (v1 v2 : Option V), H' lf = some (.lst ys) ∧ PairsAt H' ys (reachL b ss i) ∧ σ = [some (.ref l), some (.int b), some (.ref lf), v1, v2])
      ⟨up hlf, fun j m hj => absurd hj (Nat.not_lt_zero j), [], none, none, upd_same, .nil, rfl⟩ ?_ ?_
    · rintro i σ H2 hi ⟨hs, hg, ys, v1, v2, hl1, hy, rfl⟩
      obtain ⟨st, hst⟩ : ∃ st, ss[i]? = some st := ⟨_, List.getElem?_eq_getElem hi⟩
      obtain ⟨u, hx, mv⟩ := (hm.same hs).at_ hst
      have zi : (0 : Int) + ((i : Nat) : Int) = ((i : Nat) : Int) := by omega
      have e1 : atI xs (0 + ((i : Nat) : Int)) = some (.ref u) := by rw [zi]; exact atI_nat hx
      have hl2 := hs _ _ hl
      have ext : (∀ m, st = .bound m → IsG b (onL (ss.take i)) m (gwI b (onL (ss.take i)) m)) → ∀ j m, j < i + 1 → ss[j]? = some (.bound m) → IsG b (onL (ss.take j)) m (gwI b (onL (ss.take j)) m) := fun hh j m hj e => by
        by_cases z : j = i
        · subst z
          rw [hst] at e
          exact hh m (Option.some.inj e)
        · exact hg j m (by omega) e
      cases st with
      | push a =>
        obtain ⟨y, g1, g2⟩ := mv
        have er : reachL b ss (i + 1) = reachL b ss i := by
          rw [reachL_succ]
          unfold reachAt
          rw [hst]
          simp
        rw [er]
        refine ⟨_, rfl, _, rfl, l, _, _, _, rfl, rfl, SqL.of hl2, e1, u, _, _, _, rfl, rfl, SqT.of g1, rfl, rfl, _, rfl, ifs_neg (show ("push" : Str) ≠ "bound" by decide) ?_⟩
        exact ⟨hs, ext (fun m e => by cases e), ys, _, _, hl1, hy, rfl⟩
      | pop =>
        have g1 : H2 u = _ := mv
        have er : reachL b ss (i + 1) = reachL b ss i := by
          rw [reachL_succ]
          unfold reachAt
          rw [hst]
          simp
        rw [er]
        refine ⟨_, rfl, _, rfl, l, _, _, _, rfl, rfl, SqL.of hl2, e1, u, _, _, _, rfl, rfl, SqT.of g1, rfl, rfl, _, rfl, ifs_neg (show ("pop" : Str) ≠ "bound" by decide) ?_⟩
        exact ⟨hs, ext (fun m e => by cases e), ys, _, _, hl1, hy, rfl⟩
      | bound m =>
        have g1 : H2 u = _ := mv
        have sok : 0 ≤ m ∧ m ≤ 10 ^ 60 - 1 := rb.at_ hst
        have so := (rb.take i).stk b0 b1
        have er : reachL b ss (i + 1) = reachL b ss i ++ [(((i : Nat) : Int), gwI b (onL (ss.take i)) m)] := by
          rw [reachL_succ]
          unfold reachAt
          rw [hst]
          rfl
        have e0 : cutV xs none (some (0 + ((i : Nat) : Int))) = xs.take i := by
          rw [zi]
          exact cut_to (by omega)
        have yl := hy.len
        have rl := reachL_len b ss i
        refine ⟨_, rfl, _, rfl, l, _, _, _, rfl, rfl, SqL.of hl2, e1, u, _, _, _, rfl, rfl, SqT.of g1, rfl, rfl, _, rfl, ifd_pos rfl ?_⟩
        refine ⟨_, rfl, _, rfl, _, rfl, l, xs, rfl, SqL.of hl2, fun p1 hp1 => ?_⟩
        rw [e0]
        have s3 := hs.trans (up (o := .lst (xs.take i)) hp1)
        refine ⟨_, rfl, p1, _, ss.take i, b, rfl, upd_same, (hm.same s3).take i, rb.take i, b0, b1, fun q H5 nq s5 st5 => ?_⟩
        have s6 := s3.trans s5
        have g5 := s5 _ _ (up hp1 _ _ g1)
        have hl5' := s6 _ _ hl
        refine ⟨_, rfl, _, rfl, l, _, _, _, rfl, rfl, SqL.of hl5', e1, u, _, _, _, rfl, rfl, SqT.of g5, rfl, q, b, m, _, rfl, st5, so, sok.1, sok.2, fun ig => ?_⟩
        have hl5 := s5 _ _ (up hp1 _ _ hl1)
        have hy5 := (hy.same (up (o := .lst (xs.take i)) hp1)).same s5
        have fin : ∀ t7, H5 t7 = none → Same H (upd (upd H5 t7 (.tup [.int (i : Nat), .int (gwI b (onL (ss.take i)) m)])) lf (.lst (ys ++ [.ref t7]))) ∧ PairsAt (upd (upd H5 t7 (.tup [.int (i : Nat), .int (gwI b (onL (ss.take i)) m)])) lf (.lst (ys ++ [.ref t7]))) (ys ++ [.ref t7]) (reachL b ss (i + 1)) := fun t7 ht7 => by
          refine ⟨fun y o e => ?_, ?_⟩
          · rw [upd_ne (ne_of_none e hlf)]
            exact up ht7 _ _ (s6 _ _ e)
          · rw [er]
            exact PairsAt.put (PairsAt.snoc (a := (((i : Nat) : Int), gwI b (onL (ss.take i)) m)) (hy5.same (up ht7)) upd_same) (up ht7 _ _ hl5)
        have small : ys.length < sizeLine := by
          rw [sizeLine_eq]
          omega
        refine ⟨_, rfl, .inl ⟨rfl, _, SqL.of hl5⟩, _, rfl, ?_⟩
        unfold gwV
        rw [zi]
        by_cases z : gwI b (onL (ss.take i)) m < 0
        · rw [if_pos z]
          have e1 : gwI b (onL (ss.take i)) m = -1 := by have := ig.1; omega
          rw [e1] at fin
          refine ⟨_, rfl, rfl, _, rfl, ifd_pos rfl ⟨_, rfl, (by show 2 ≤ sizeLine; decide), fun t7 ht7 => ⟨lf, _, _, rfl, rfl, up ht7 _ _ hl5, small, ?_⟩⟩⟩
          obtain ⟨f1, f2⟩ := fin t7 ht7
          exact ⟨f1, ext (fun m' e => by cases e; exact ig), _, _, _, upd_same, f2, rfl⟩
        · rw [if_neg z]
          refine ⟨_, rfl, rfl, _, rfl, ifd_neg (fun y => by cases y) ⟨_, rfl, (by show 2 ≤ sizeLine; decide), fun t7 ht7 => ⟨lf, _, _, rfl, rfl, up ht7 _ _ hl5, small, ?_⟩⟩⟩
          obtain ⟨f1, f2⟩ := fin t7 ht7
          exact ⟨f1, ext (fun m' e => by cases e; exact ig), _, _, _, upd_same, f2, rfl⟩
    · rintro σ H' ⟨hs, hg, ys, v1, v2, hl1, hy, rfl⟩
      exact ⟨_, rfl, k lf ys H' hlf (fun i m e => hg i m (List.getElem?_eq_some_iff.mp e).1 e) hs hl1 hy⟩
end
set_option pp.maxSteps 900
theorem asg_val {te : TE} {i : Nat} {u : TS} {D : Ends} {σ : L2.St} {H : Hp} (v : V) (H' : Hp) (h : ∀ R : VK, R v H' → te σ H R) (k : u D (σ.set i (some v)) H') : tSeq (tAsg te (gName i)) u D σ H := h _ k
theorem nxt {i : Nat} {v : V} {σ : L2.St} {H : Hp} {Q : L2.St → Hp → Prop} (h : Q (σ.set i (some v)) H) : gName i v σ H Q := h
theorem tIf_val {t : TT} {ta tb : TE} {σ : L2.St} {H : Hp} {Q : VK} (v : V) (H' : Hp) (h : ∀ R : VK, R v H' → tIf t ta tb σ H R) (k : Q v H') : tIf t ta tb σ H Q := h _ k
/-- what stands in for a value that may be None -/
def optD : V → PyData
  | .int i => .int i
  | _ => .none
/-- None or a number that is not long -/
def Opt1 (v : V) : Prop := v = .non ∨ ∃ i : Int, v = .int i ∧ i.natAbs < 10 ^ 60
theorem Opt1.dp {K : PySem.W.Frag} {H : Hp} {v : V} (h : Opt1 v) : Dp K H v (optD v) := by
  rcases h with rfl | ⟨i, rfl, _⟩
  · exact .non
  · exact .int i
theorem Opt1.sho {v : V} (h : Opt1 v) : Sho (optD v) 0 61 := by
  rcases h with rfl | ⟨i, rfl, h⟩
  · exact sho_none.mono (by decide) (by decide)
  · exact sho_int 60 (by decide) (by decide) h
theorem opt_sho {u v : V} (h : Opt1 u) (g : Opt1 v) : Sho (.list [optD u, optD v]) 1 200 :=
  (sho_list (k := 0) (m := 61) (ds := [optD u, optD v]) fun d hd => by
    rcases List.mem_cons.mp hd with rfl | hd
    · exact h.sho
    · rw [List.mem_singleton.mp hd]
      exact g.sho).mono (by decide) (by show (61 + 2) * 2 + 4 ≤ 200; decide)
theorem opt_pl {b : Int} {ss : List Stp} {v : V} (h : IsPl b ss v) (hl : ss.length ≤ 1000) : Opt1 v := by
  rcases h with ⟨_, rfl⟩ | ⟨_, i, x, rfl, es, _⟩
  · exact .inl rfl
  · have hi : i < ss.length := (List.getElem?_eq_some_iff.mp es).1
    exact .inr ⟨_, rfl, by omega⟩
theorem IsPl.eq {b : Int} {ss : List Stp} {u v : V} (h : IsPl b ss u) (g : IsPl b ss v) : u = v := by
  rcases h with ⟨h1, h2⟩ | ⟨h1, i, x, h2, h3, h4, h5⟩
  · rcases g with ⟨g1, g2⟩ | ⟨g1, _⟩
    · rw [h2, g2]
    · exact absurd h1 g1
  · rcases g with ⟨g1, _⟩ | ⟨g1, j, y, g2, g3, g4, g5⟩
    · exact absurd g1 h1
    · have e : i = j := by
        rcases Nat.lt_trichotomy i j with z | z | z
        · exact absurd h4 (g5 i x z h3)
        · exact z
        · exact absurd g4 (h5 j y z g3)
      rw [h2, g2, e]
theorem all_least {ps : List (Int × Int)} {n : Int} (n1 : n ≤ 10 ^ 60 - 1) : ((ps.map fun z => decide (n ≤ z.2)).all id = true) ↔ n ≤ leastL ps := by
  obtain ⟨g1, g2, g3⟩ := least_fold (ps.map (·.2)) (10 ^ 60 - 1)
  constructor
  · intro h
    rw [List.all_eq_true] at h
    rcases g3 with g3 | g3
    · show n ≤ (ps.map (·.2)).foldl _ _
      rw [g3]
      exact n1
    · obtain ⟨z, hz, e⟩ := List.mem_map.mp g3
      have := h _ (List.mem_map.mpr ⟨z, hz, rfl⟩)
      show n ≤ (ps.map (·.2)).foldl _ _
      rw [← e]
      exact of_decide_eq_true this
  · intro h
    rw [List.all_eq_true]
    intro x hx
    obtain ⟨z, hz, rfl⟩ := List.mem_map.mp hx
    exact decide_eq_true (Int.le_trans h (g2 _ (List.mem_map.mpr ⟨z, hz, rfl⟩)))
theorem PairsAt.kp {H H' : Hp} {l : Addr} {ys : List V} {xs : List V} {ws : List (Int × Int)} (h : PairsAt H xs ws) (hl : H l = some (.lst ys)) (k : Kp l H H') : PairsAt H' xs ws := by
  induction h with
  | nil => exact .nil
  | cons e _ ih => exact .cons (k _ _ (fun z => by rw [z, hl] at e; cases e) e) ih
def PilesAt (K : PySem.W.Frag) (H : Hp) (b : Int) (ss : List Stp) (ys : List V) (k : Nat) : Prop := ys.length = k ∧ ∀ j, j < k → ∃ q, ys[j]? = some (.ref q) ∧ StkAt K H q b (onL (ss.take j))
theorem PilesAt.keeps {K : PySem.W.Frag} {H H' : Hp} {b : Int} {ss : List Stp} {ys : List V} {k : Nat} (h : PilesAt K H b ss ys k) (s : Keeps K H H') : PilesAt K H' b ss ys k := ⟨h.1, fun j hj => by
  obtain ⟨q, h1, h2⟩ := h.2 j hj
  exact ⟨q, h1, h2.keeps s⟩⟩
theorem PilesAt.same {K : PySem.W.Frag} {H H' : Hp} {b : Int} {ss : List Stp} {ys : List V} {k : Nat} (h : PilesAt K H b ss ys k) (s : Same H H') : PilesAt K H' b ss ys k := h.keeps (.same s)
theorem PilesAt.snoc {K : PySem.W.Frag} {H : Hp} {b : Int} {ss : List Stp} {ys : List V} {k : Nat} {q : Addr} (h : PilesAt K H b ss ys k) (hq : StkAt K H q b (onL (ss.take k))) : PilesAt K H b ss (ys ++ [.ref q]) (k + 1) := by
  refine ⟨by rw [List.length_append, h.1]; rfl, fun j hj => ?_⟩
  by_cases z : j = k
  · subst z
    exact ⟨q, by rw [List.getElem?_append_right (by rw [h.1]; exact Nat.le_refl _), h.1, Nat.sub_self]; rfl, hq⟩
  · obtain ⟨q', h1, h2⟩ := h.2 j (by omega)
    exact ⟨q', by rw [List.getElem?_append_left (by rw [h.1]; omega)]; exact h1, h2⟩
theorem keeps_put {K : PySem.W.Frag} {H : Hp} {D : Addr} {acc zs : List V} (hd : H D = some (.lst acc)) : Keeps K H (upd H D (.lst zs)) :=
  ⟨fun {q xs} e => by rw [upd_ne (fun z => by rw [z, hd] at e; cases e)]; exact e, fun {q xs fs} e => by rw [upd_ne (fun z => by rw [z, hd] at e; cases e)]; exact e, fun {q xs fs} e => by rw [upd_ne (fun z => by rw [z, hd] at e; cases e)]; exact e⟩
theorem trail_eq {b : Int} {ss : List Stp} {n : Int} {k : Nat} (rb : RoadB b ss) : (List.range k).map (fun j => V.int (grS b (onL (ss.take j)) n)) = (trailL b ss n k).map V.int := by
  unfold trailL
  rw [List.map_map]
  refine List.map_congr_left fun j _ => ?_
  show _ = V.int (trS b (ss.take j) n).1
  rw [trS_on (rb.take j)]
theorem trail_sho {b : Int} {ss : List Stp} {n : Int} (rb : RoadB b ss) (b0 : 2 ≤ b) (b1 : b ≤ 256) (hl : ss.length ≤ 1000) (n0 : 0 ≤ n) (n1 : n ≤ 10 ^ 60 - 1) : Sho (.tuple ((trailL b ss n (ss.length + 1)).map PyData.int)) 1 90000 :=
  (sho_tuple (k := 0) (m := 76) fun d hd => by
    obtain ⟨x, hx, rfl⟩ := List.mem_map.mp hd
    obtain ⟨i, _, rfl⟩ := List.mem_map.mp hx
    rw [trS_on (rb.take i)]
    have so := (rb.take i).stk b0 b1
    obtain ⟨g0, g1⟩ := grS_pow so.b0 _ so.ok (n := n) (k := 200) (by decide) n0 (Int.lt_of_le_of_lt n1 (by decide))
    have l6 := so.len
    have g2 : grS b (onL (ss.take i)) n < 2 ^ 248 := Int.lt_of_lt_of_le g1 (pow_mono (by decide) (by omega))
    have g3 : (2 : Int) ^ 248 < 10 ^ 75 := by decide
    exact sho_int 75 (by decide) (by decide) (by omega)).mono (by decide) (by
      rw [List.length_map]
      unfold trailL
      rw [List.length_map, List.length_range]
      omega)
section
variable {P : Program} {w : World} {K : PySem.W.Frag} {mg : Str → Option Value} {base : Heap}
theorem ok_L_right (T : Tx w K mg) : PromG P w K mg base 12 "_law_right" s_L_right ["_law_cell_here"] spRightI := by
  refine PromG.of T.d_L_right sc_L_right (fun vs H Q E h => ?_) (fun _ _ _ _ _ _ us hl => match us, hl with | [_], _ => rfl) (fun f cdv A outer s H vs Q E hr hgd h => ?_)
  · obtain ⟨c, rfl, _⟩ := h
    rfl
  · obtain ⟨c, rfl, k⟩ := h
    refine ⟨_, (pss_cons (ps_set (i := 1) sc_L_right.nd rfl (Or.inl rfl) (pe_callP (ok_L_pool T) (hr.mono (by decide)) (by rfl) pass0 (pa_cons (pv 0) pa_nil)))
      (pss_cons (ps_set (i := 2) sc_L_right.nd rfl (Or.inr rfl) (pe_callP (ok_L_radix T) (hr.mono (by decide)) (by rfl) pass0 (pa_cons (pv 1) pa_nil)))
      (pss_cons (ps_set (i := 3) sc_L_right.nd rfl (Or.inl rfl) (pe_callP (ok_L_length T) (hr.mono (by decide)) (by rfl) pass0 (pa_cons (pv 1) (pa_cons (pv 2) pa_nil))))
      (pss_cons (ps_set (i := 4) sc_L_right.nd rfl (Or.inr rfl) (pe_callP (ok_L_moves T) (hr.mono (by decide)) (by rfl) pass0 (pa_cons (pv 1) (pa_cons (pe_callP (ok_L_draw T) (hr.mono (by decide)) (by rfl) pass0 (pa_cons (pv 1) (pa_cons pe_int pa_nil))) (pa_cons (pv 2) (pa_cons (pv 3) pa_nil))))))
      (pss_cons (ps_par (i := 5) (j := 6) (by rfl) sc_L_right.nd rfl rfl (by decide) rfl rfl (pa_cons (pe_callP (ok_L_track T) (hr.mono (by decide)) (by rfl) pass0 (pa_cons (pv 4) (pa_cons (pv 2) pa_nil))) (pa_cons (pe_callP (ok_L_reach T) (hr.mono (by decide)) (by rfl) pass0 (pa_cons (pv 4) (pa_cons (pv 2) pa_nil))) pa_nil)) (by rfl))
      (pss_cons (ps_set (i := 8) sc_L_right.nd rfl (Or.inr rfl) (pe_callB (cr_min rfl) (by rfl) T.b_min (by decide +kernel) (pa_cons (pe_op op_cat (pe_lst (pa_cons (pe_op op_sub (pe_op op_pow pe_int pe_int) pe_int) pa_nil)) (pe_lc (own := [("_law_k", 7), ("_law_most", 14)]) (g := (gTup K 2 (gCons (gName 7) (gCons (gName 14) gNil)))) (tt := tYes) (by rfl) sc_L_right.nd (pi_list (pv 6)) (blkOk_by (own := [("_law_k", 7), ("_law_most", 14)]) (N := ["_law_cell_here", "_law_pool_here", "_law_b", "_law_middle", "_law_moves_here", "_law_track_here", "_law_pairs", "_law_k", "_law_least", "_law_stopped", "_law_due", "_law_n", "_law_piles", "_law_rest", "_law_most", "_law_pile_here", "_law_at"]) (sc := defScope s_L_right) (by decide +kernel)) (fun _ _ _ _ _ => (pg_tup rfl (pgs_cons (pg_name (i := 7) sc_L_right.nd rfl (Or.inl rfl)) (pgs_cons (pg_name (i := 14) sc_L_right.nd rfl (Or.inl rfl)) pgs_nil)))) (fun _ _ _ _ _ => pts_nil) (fun _ _ _ _ _ => (pv 14)))) pa_nil)))
      (pss_cons (ps_setLc (i := 9) (own := [("_law_k", 7), ("_law_most", 14)]) (g := (gTup K 2 (gCons (gName 7) (gCons (gName 14) gNil)))) (by rfl) sc_L_right.nd rfl rfl (sw_true rfl rfl rfl (by decide +kernel)) (pi_list (pv 6)) (blkOk_by (own := [("_law_k", 7), ("_law_most", 14)]) (N := ["_law_cell_here", "_law_pool_here", "_law_b", "_law_middle", "_law_moves_here", "_law_track_here", "_law_pairs", "_law_k", "_law_least", "_law_stopped", "_law_due", "_law_n", "_law_piles", "_law_rest", "_law_most", "_law_pile_here", "_law_at"]) (sc := defScope s_L_right) (by decide +kernel)) (fun _ _ _ _ _ => (pg_tup rfl (pgs_cons (pg_name (i := 7) sc_L_right.nd rfl (Or.inl rfl)) (pgs_cons (pg_name (i := 14) sc_L_right.nd rfl (Or.inl rfl)) pgs_nil)))) (fun _ _ _ _ _ => pts_one (pt_cmp (pc_eqI (pv 14) (pv 8)))) (fun _ _ _ _ _ => (pv 7)))
      (pss_cons (ps_set (i := 10) sc_L_right.nd rfl (Or.inl rfl) (pe_ifExp (pt_cmp (pc_eqI (pv 8) (pe_op op_sub (pe_op op_pow pe_int pe_int) pe_int))) pe_non (pe_ix ix_list (pv 9) pe_int (fun _ _ => rfl))))
      (pss_cons (ps_if (pt_cmpR op_ne (pe_callB (cr_reprD hgd hr.units) (by rfl) T.b_repr (by decide +kernel) (pa_cons (pe_lst (pa_cons (pe_methP0 (ok_Road_greatest T) (hr.mono (by decide)) pass0 (pv 5)) (pa_cons (pe_methP0 (ok_Road_stopper T) (hr.mono (by decide)) pass0 (pv 5)) pa_nil))) pa_nil)) (pe_callB (cr_reprD hgd hr.units) (by rfl) T.b_repr (by decide +kernel) (pa_cons (pe_lst (pa_cons (pe_ifExp (pt_cmp (pc_eqI (pv 8) (pe_un un_neg pe_int))) pe_non (pv 8)) (pa_cons (pv 10) pa_nil))) pa_nil)) (nomark _)) (pss_one (ps_ret pe_bl)) pss_nil)
      (pss_cons (ps_for PassesOwn.never (by rfl) (pi_list (pe_lst (pa_cons (pv 3) (pa_cons pe_int (pa_cons (pe_callP (ok_L_length T) (hr.mono (by decide)) (by rfl) pass0 (pa_cons (pv 1) (pa_cons (pv 2) pa_nil))) (pa_cons (pe_callB (call_max2 rfl) (by rfl) T.b_max (by decide +kernel) (pa_cons pe_int (pa_cons (pv 8) pa_nil))) (pa_cons (pe_callB (call_min2 rfl) (by rfl) T.b_min (by decide +kernel) (pa_cons (pe_op op_sub (pe_op op_pow pe_int pe_int) pe_int) (pa_cons (pe_op op_add (pv 8) pe_int) pa_nil))) pa_nil))))))) (pg_name (i := 11) sc_L_right.nd rfl (Or.inr rfl)) (pss_cons (ps_if (pt_cmpR op_ne (pe_callB cr_repr (by rfl) T.b_repr (by decide +kernel) (pa_cons (pe_methP (ok_Road_fits T) (hr.mono (by decide)) pass0 (pv 5) (pa_cons (pv 11) pa_nil)) pa_nil)) (pe_callB cr_repr (by rfl) T.b_repr (by decide +kernel) (pa_cons (pe_callB (cr_all rfl) (by rfl) T.b_all (by decide +kernel) (pa_cons (pe_lc (own := [("_law_k", 7), ("_law_most", 14)]) (g := (gTup K 2 (gCons (gName 7) (gCons (gName 14) gNil)))) (tt := tYes) (by rfl) sc_L_right.nd (pi_list (pv 6)) (blkOk_by (own := [("_law_k", 7), ("_law_most", 14)]) (N := ["_law_cell_here", "_law_pool_here", "_law_b", "_law_middle", "_law_moves_here", "_law_track_here", "_law_pairs", "_law_k", "_law_least", "_law_stopped", "_law_due", "_law_n", "_law_piles", "_law_rest", "_law_most", "_law_pile_here", "_law_at"]) (sc := defScope s_L_right) (by decide +kernel)) (fun _ _ _ _ _ => (pg_tup rfl (pgs_cons (pg_name (i := 7) sc_L_right.nd rfl (Or.inl rfl)) (pgs_cons (pg_name (i := 14) sc_L_right.nd rfl (Or.inl rfl)) pgs_nil)))) (fun _ _ _ _ _ => pts_nil) (fun _ _ _ _ _ => (pe_cmp (pc_le (pv 11) (pv 14))))) pa_nil)) pa_nil)) (nomark _)) (pss_one (ps_ret pe_bl)) pss_nil)
      (pss_cons (ps_setLc (i := 12) (own := [("_law_k", 7)]) (g := (gName 7)) (tt := tYes) (by rfl) sc_L_right.nd rfl rfl (sw_true rfl rfl rfl (by decide +kernel)) (pi_range1 (by rfl) T.b_range (pa_cons (pe_op op_add (pe_callB call_len_seq (by rfl) T.b_len (by decide +kernel) (pa_cons (pv 4) pa_nil)) pe_int) pa_nil)) (blkOk_by (own := [("_law_k", 7)]) (N := ["_law_cell_here", "_law_pool_here", "_law_b", "_law_middle", "_law_moves_here", "_law_track_here", "_law_pairs", "_law_k", "_law_least", "_law_stopped", "_law_due", "_law_n", "_law_piles", "_law_rest", "_law_most", "_law_pile_here", "_law_at"]) (sc := defScope s_L_right) (by decide +kernel)) (fun _ _ _ _ _ => (pg_name (i := 7) sc_L_right.nd rfl (Or.inl rfl))) (fun _ _ _ _ _ => pts_nil) (fun _ _ _ _ _ => (pe_callP (ok_L_pile T) (hr.mono (by decide)) (by rfl) pass0 (pa_cons (pe_slice (show SlR _ (rSlL K) from sl_list) (pv 4) po_none (po_some (pv 7))) (pa_cons (pv 2) pa_nil)))))
      (pss_one (ps_if (pt_cmpR op_ne (pe_callB (cr_reprD hgd hr.units) (by rfl) T.b_repr (by decide +kernel) (pa_cons (pe_methP (ok_Road_sizes T) (hr.mono (by decide)) pass0 (pv 5) (pa_cons (pv 11) pa_nil)) pa_nil)) (pe_callB (cr_reprD hgd hr.units) (by rfl) T.b_repr (by decide +kernel) (pa_cons (pe_callTy call_tuple_of (by rfl) T.b_tuple (by decide +kernel) (pa_cons (pe_lc (own := [("_law_pile_here", 15)]) (g := (gName 15)) (tt := tYes) (by rfl) sc_L_right.nd (pi_list (pv 12)) (blkOk_by (own := [("_law_pile_here", 15)]) (N := ["_law_cell_here", "_law_pool_here", "_law_b", "_law_middle", "_law_moves_here", "_law_track_here", "_law_pairs", "_law_k", "_law_least", "_law_stopped", "_law_due", "_law_n", "_law_piles", "_law_rest", "_law_most", "_law_pile_here", "_law_at"]) (sc := defScope s_L_right) (by decide +kernel)) (fun _ _ _ _ _ => (pg_name (i := 15) sc_L_right.nd rfl (Or.inl rfl))) (fun _ _ _ _ _ => pts_nil) (fun _ _ _ _ _ => (show PE _ _ (tMeth (He.ga K "Stack") "size" _ [] _ _ _) from (pe_methP (ok_Stack_size T) (hr.mono (by decide)) pass0 (pv 15) (pa_cons (pv 11) pa_nil))))) pa_nil)) pa_nil)) (nomark _)) (pss_one (ps_ret pe_bl)) pss_nil)))))
      (pss_cons (ps_if (PW.pt (pw_or (pt_cmpR op_ne (pe_callTy (cr_strO (ok_Stack___str__ T) (hr.mono (by decide)) pass0) (by rfl) T.b_str (by decide +kernel) (pa_cons (pe_fld (pv 5) rfl) pa_nil)) (pe_callTy (cr_strO (ok_Stack___str__ T) (hr.mono (by decide)) pass0) (by rfl) T.b_str (by decide +kernel) (pa_cons (pe_callP (ok_L_pile T) (hr.mono (by decide)) (by rfl) pass0 (pa_cons (pv 4) (pa_cons (pv 2) pa_nil))) pa_nil)) (nomark _)) (pw_or1 (pt_cmpR (op_neO T.st_Stack (ok_Stack___eq__ T) (hr.mono (by decide)) pass0) (pe_fld (pv 5) rfl) (pe_callP (ok_L_pile T) (hr.mono (by decide)) (by rfl) pass0 (pa_cons (pv 4) (pa_cons (pv 2) pa_nil))) (nomark _))))) (pss_one (ps_ret pe_bl)) pss_nil)
      (pss_cons (ps_for PassesOwn.never (by rfl) (pi_tup (pe_methP0 (ok_Road_idle T) (hr.mono (by decide)) pass0 (pv 5))) (pg_name (i := 7) sc_L_right.nd rfl (Or.inr rfl)) (pss_cons (ps_set (i := 13) sc_L_right.nd rfl (Or.inl rfl) (pe_callB (cr_min rfl) (by rfl) T.b_min (by decide +kernel) (pa_cons (pe_op op_cat (pe_lst (pa_cons (pe_op op_sub (pe_op op_pow pe_int pe_int) pe_int) pa_nil)) (pe_lc (own := [("_law_at", 16), ("_law_most", 14)]) (g := (gTup K 2 (gCons (gName 16) (gCons (gName 14) gNil)))) (by rfl) sc_L_right.nd (pi_list (pv 6)) (blkOk_by (own := [("_law_at", 16), ("_law_most", 14)]) (N := ["_law_cell_here", "_law_pool_here", "_law_b", "_law_middle", "_law_moves_here", "_law_track_here", "_law_pairs", "_law_k", "_law_least", "_law_stopped", "_law_due", "_law_n", "_law_piles", "_law_rest", "_law_most", "_law_pile_here", "_law_at"]) (sc := defScope s_L_right) (by decide +kernel)) (fun _ _ _ _ _ => (pg_tup rfl (pgs_cons (pg_name (i := 16) sc_L_right.nd rfl (Or.inl rfl)) (pgs_cons (pg_name (i := 14) sc_L_right.nd rfl (Or.inl rfl)) pgs_nil)))) (fun _ _ _ _ _ => pts_one (pt_cmp (pc_neI (pv 16) (pv 7)))) (fun _ _ _ _ _ => (pv 14)))) pa_nil)))
      (pss_one (ps_if (pt_cmp (pc_neI (pv 13) (pv 8))) (pss_one (ps_ret pe_bl)) pss_nil))))
      (pss_one (ps_ret pe_bl)))))))))))))), ?_⟩
    refine ⟨_, rfl, c, rfl, fun p H1 np s1 hp => ?_⟩
    refine ⟨_, rfl, p, rfl, hp, fun b H2 b0 b1 d2 => ?_⟩
    refine ⟨_, rfl, _, rfl, p, b, rfl, d2.at_, b0, b1, fun mid H3 mid0 mid1 d3 => ?_⟩
    have d3 := d2.trans d3
    refine ⟨_, rfl, _, rfl, p, _, rfl, d3.at_, by decide, by decide, fun n H4 n0 n1 d4 => ?_⟩
    have d4 := d3.trans d4
    refine ⟨_, rfl, _, rfl, p, n, b, mid, rfl, d4.at_, n0, by omega, b0, b1, mid0, fun l xs ss H5 rb hlen nl d5 hl hm => ?_⟩
    have s5 : Same H H5 := sm_drew s1 (d4.trans d5) np
    have hp5 := d5.at_
    have nlp : l ≠ p := d4.at_.ne nl
    have hlx := hm.len
    refine ⟨_, rfl, _, rfl, l, xs, ss, b, rfl, hl, hm, rb, by omega, b0, b1, fun r H6 nr s6 hR => ?_⟩
    refine ⟨_, rfl, _, rfl, l, xs, ss, b, rfl, s6 _ _ hl, hm.same s6, rb, by omega, b0, b1, fun lp ys H7 nlp2 ag s7 hlp hy => ?_⟩
    have nlpp : lp ≠ p := (hp5.same s6).ne nlp2
    have s7 := s6.trans s7
    have hR := hR.same (by assumption)
    have hl7 := s7 _ _ hl
    have hm7 := hm.same s7
    have hp7 := hp5.same s7
    have e7 : Same H H7 := s5.trans s7
    have hyl := hy.len
    have rl := reachL_len b ss ss.length
    have rg := least_range ag
    -- the least of them
    refine ⟨_, _, rfl, _, _, rfl, rfl, ⟨by decide, by decide, by decide⟩, _, _, rfl, rfl, (by show 1 ≤ sizeLine; decide), fun l1 hl1 => ?_⟩
    refine ⟨_, rfl, lp, rfl, ⟨_, SqL.of (up hl1 _ _ hlp)⟩, fun D hD => ?_⟩
    refine lc_list (K := K) (a := lp) (xs := ys) (Pv := fun i H' => Same (upd H7 l1 (.lst [.int (10 ^ 60 - 1)])) H' ∧ H' D = some (.lst (((reachL b ss ss.length).take i).map fun z => V.int z.2))) ⟨up hD, upd_same⟩ (fun i H' _ h => SqL.of (h.1 _ _ (up hl1 _ _ hlp))) ?_ ?_
    · rintro i x H' hi ⟨hs, hd⟩
      obtain ⟨u, a, rfl, ha, hu⟩ := hy.get hi
      have hil := (List.getElem?_eq_some_iff.mp ha).1
      refine ⟨u, _, rfl, SqT.of (hs _ _ (up hl1 _ _ hu)), rfl, _, _, rfl, _, _, rfl, rfl, rfl, _, rfl, _, hd, ?_, fun y o e => ?_, ?_⟩
      · rw [List.length_map, List.length_take, sizeLine_eq]
        omega
      · rw [upd_ne (ne_of_none e hD)]
        exact hs _ _ e
      · rw [upd_same, List.take_succ, ha, List.map_append]
        rfl
    rintro H8 ⟨hs8, hd8⟩
    rw [hyl, List.take_length] at hd8
    refine ⟨l1, D, _, _, rfl, rfl, hs8 _ _ upd_same, hd8, ?_, fun l3 hl3 => ?_⟩
    · simp
      rw [sizeLine_eq]
      omega
    have el : [V.int (10 ^ 60 - 1)] ++ (reachL b ss ss.length).map (fun z => V.int z.2) = ((10 ^ 60 - 1) :: (reachL b ss ss.length).map (·.2)).map V.int := by simp
    refine ⟨l3, (10 ^ 60 - 1) :: (reachL b ss ss.length).map (·.2), rfl, SqL.of (by rw [← el]; exact upd_same), by simp, fun m hm' hle => ?_⟩
    have em := leastL_eq hm' hle
    subst em
    have s9 : Same H7 (upd H8 l3 (.lst ([V.int (10 ^ 60 - 1)] ++ (reachL b ss ss.length).map (fun z => V.int z.2)))) := ((up hl1).trans hs8).trans (up hl3)
    generalize upd H8 l3 (.lst ([V.int (10 ^ 60 - 1)] ++ (reachL b ss ss.length).map (fun z => V.int z.2))) = H9 at s9 ⊢
    have hlp9 := s9 _ _ hlp
    have hy9 := hy.same s9
    have lm := least_mem (b := b) (ss := ss)
    have fo := first_of (b := b) (m := leastL (reachL b ss ss.length)) (ss := ss) ss.length
    refine ⟨_, rfl, lp, rfl, ⟨_, SqL.of hlp9⟩, fun D2 hD2 => ?_⟩
    refine lc_list (K := K) (a := lp) (xs := ys) (Pv := fun i H' => Same H9 H' ∧ H' D2 = some (.lst (((((reachL b ss ss.length).take i).filter fun z => decide (z.2 = leastL (reachL b ss ss.length))).map (·.1)).map V.int))) ⟨up hD2, upd_same⟩ (fun i H' _ h => SqL.of (h.1 _ _ hlp9)) ?_ ?_
    · rintro i x H' hi ⟨hs, hd⟩
      obtain ⟨u, a, rfl, ha, hu⟩ := hy9.get hi
      have hil := (List.getElem?_eq_some_iff.mp ha).1
      have et : (reachL b ss ss.length).take (i + 1) = (reachL b ss ss.length).take i ++ [a] := by
        rw [List.take_succ, ha]
        rfl
      generalize reachL b ss ss.length = ps at hil et hd rl ⊢
      refine ⟨u, _, rfl, SqT.of (hs _ _ hu), rfl, _, _, rfl, _, _, rfl, rfl, rfl, _, rfl, _, rfl, _, _, rfl, rfl, _, rfl, ifd (fun z => ?_) (fun z => ?_)⟩
      · have z : a.2 = leastL ps := z
        refine ⟨_, rfl, _, hd, ?_, fun y o e => ?_, ?_⟩
        · rw [List.length_map, List.length_map, sizeLine_eq]
          have h1 := List.length_filter_le (fun z : Int × Int => decide (z.2 = leastL ps)) (ps.take i)
          have h2 := List.length_take_le' i ps
          omega
        · rw [upd_ne (ne_of_none e hD2)]
          exact hs _ _ e
        · rw [upd_same, et, List.filter_append, List.map_append, List.map_append]
          simp [z]
      · have z : ¬ a.2 = leastL ps := z
        refine ⟨hs, ?_⟩
        rw [hd, et, List.filter_append]
        simp [z]
    rintro H10 ⟨hs10, hd10⟩
    rw [hyl, List.take_length] at hd10
    have s10 := s9.trans hs10
    obtain ⟨due, pl, hdue⟩ : ∃ due, IsPl b ss due ∧ (leastL (reachL b ss ss.length) = 10 ^ 60 - 1 ∧ due = .non ∨ leastL (reachL b ss ss.length) ≠ 10 ^ 60 - 1 ∧ ∃ zs, H10 D2 = some (.lst (due :: zs))) := by
      unfold IsPl
      generalize leastL (reachL b ss ss.length) = m at lm fo hd10 ⊢
      by_cases c : m = 10 ^ 60 - 1
      · exact ⟨_, .inl ⟨c, rfl⟩, .inl ⟨c, rfl⟩⟩
      · rcases fo with ⟨f1, f2⟩ | ⟨i, rest, x, f1, f2, f3, f4⟩
        · exfalso
          obtain ⟨z, hz, ez⟩ := lm c
          have : z.1 ∈ (((reachL b ss ss.length).filter fun z => decide (z.2 = m)).map (·.1)) := List.mem_map.mpr ⟨z, List.mem_filter.mpr ⟨hz, by simp [ez]⟩, rfl⟩
          rw [f1] at this
          cases this
        · rw [f1] at hd10
          exact ⟨_, .inr ⟨c, i, x, rfl, f2, f3, f4⟩, .inr ⟨c, _, hd10⟩⟩
    refine nxt ?_
    dsimp only []
    refine asg_val due H10 (fun R kR => ?_) ?_
    · refine ⟨_, rfl, _, _, rfl, rfl, ⟨by decide, by decide, by decide⟩, _, _, rfl, rfl, _, _, rfl, rfl, _, rfl, ?_⟩
      rcases hdue with ⟨c, e⟩ | ⟨c, zs, hz⟩
      · rw [e] at kR
        exact ifd_pos c kR
      · exact ifd_neg c ⟨_, rfl, D2, _, _, _, rfl, rfl, SqL.of hz, atI_nat (j := 0) rfl, kR⟩
    clear hdue fo lm
    have hR10 := hR.same s10
    have hp10 := hp7.same s10
    have hy10 := hy9.same hs10
    have hlp10 := hs10 _ _ hlp9
    have hl10 := s10 _ _ hl7
    have hm10 := hm7.same s10
    have e10 := e7.trans s10
    have ft : ∀ n, 0 ≤ n → n ≤ 10 ^ 60 - 1 → (fitsP b ss n ↔ n ≤ leastL (reachL b ss ss.length)) := fun n n0 n1 => least_fits ag n0 n1
    obtain ⟨dx, t, q, zs, h1, h2, h3, h4⟩ := id hR10.at_
    refine ⟨_, rfl, r, dx, _, rfl, h1, rfl, r, ss, b, rfl, hR10, fun H11 _ s11 => ?_⟩
    refine ⟨_, rfl, r, dx, _, rfl, s11 _ _ h1, rfl, r, ss, b, rfl, hR10.same s11, fun va H12 _ pa s12 => ⟨(by show 2 ≤ sizeLine; decide), fun l7 hl7 => ?_⟩⟩
    have ea := pa.eq pl
    subst ea
    have o1 := opt_pl pa hR.len
    obtain ⟨mv, hmv, o2⟩ : ∃ mv, (if leastL (reachL b ss ss.length) < 0 then V.non else V.int (leastL (reachL b ss ss.length))) = mv ∧ Opt1 mv := ⟨_, rfl, by
      unfold Opt1
      split
      · exact .inl rfl
      · exact .inr ⟨_, rfl, by omega⟩⟩
    have hmv2 : mv = (if leastL (reachL b ss ss.length) = -1 then V.non else V.int (leastL (reachL b ss ss.length))) := by
      rw [← hmv]
      by_cases z : leastL (reachL b ss ss.length) < 0
      · rw [if_pos z, if_pos (by omega)]
      · rw [if_neg z, if_neg (by omega)]
    rw [hmv]
    have sD := opt_sho o2 o1
    refine ⟨l7, _, rfl, .lst (SqL.of upd_same) (.cons o2.dp (.cons o1.dp .nil)), sD.able, sD.nod, Nat.le_trans sD.deep (by decide), Nat.le_trans sD.long (by rw [sizeLine_eq]; decide), ?_⟩
    generalize hH13 : upd H12 l7 (.lst [mv, va]) = H13
    have s13 : Same H10 H13 := by rw [← hH13]; exact (s11.trans s12).trans (up hl7)
    refine tIf_val mv H13 (fun R kR => ?_) ?_
    · refine ⟨_, rfl, _, rfl, _, _, rfl, rfl, _, rfl, ?_⟩
      rw [hmv2] at kR
      by_cases c : leastL (reachL b ss ss.length) = -1
      · rw [if_pos c] at kR
        exact ifd_pos c kR
      · rw [if_neg c] at kR
        exact ifd_neg c ⟨_, rfl, kR⟩
    refine ⟨_, rfl, (by show 2 ≤ sizeLine; decide), fun l8 hl8 => ?_⟩
    refine ⟨l8, _, rfl, .lst (SqL.of upd_same) (.cons o2.dp (.cons o1.dp .nil)), sD.able, sD.nod, Nat.le_trans sD.deep (by decide), Nat.le_trans sD.long (by rw [sizeLine_eq]; decide), rfl, _, rfl, ifn (fun z => absurd rfl z) (fun _ => ?_)⟩
    have s14 := s13.trans (up (o := .lst [mv, va]) hl8)
    generalize upd H13 l8 (.lst [mv, va]) = H14 at s14 ⊢
    have hp14 := hp10.same s14
    have rg := least_range ag
    refine ⟨_, rfl, _, rfl, _, rfl, p, b, rfl, hp14, b0, b1, fun n3 H15 n30 n31 d15 => ?_⟩
    refine ⟨_, rfl, _, _, rfl, _, _, rfl, rfl, ⟨by decide, by decide, by decide⟩, _, _, rfl, rfl, _, rfl, _, _, rfl, rfl, _, _, rfl, (by show 5 ≤ sizeLine; decide), fun l9 hl9 => ?_⟩
    have hR14 := hR10.same s14
    have hl14 := s14 _ _ hl10
    have hm14 := hm10.same s14
    have hlp14 := s14 _ _ hlp10
    have hy14 := hy10.same s14
    obtain ⟨pm, pd, pc, pe, pr⟩ := id hp14
    have hR15 := hR14.kp pe d15.kp
    have hl15 := d15.kp _ _ nlp hl14
    have hm15 := hm14.drew d15 hp14
    have hlp15 := d15.kp _ _ nlpp hlp14
    have hy15 := hy14.kp pe d15.kp
    have e15 : Same H H15 := sm_drew (e10.trans s14) d15 np
    have e16 := e15.trans (up (o := .lst [V.int mid, .int 0, .int n3, .int (if leastL (reachL b ss ss.length) > 0 then leastL (reachL b ss ss.length) else 0), .int (if leastL (reachL b ss ss.length) + 1 < 10 ^ (60 : Int).toNat - 1 then leastL (reachL b ss ss.length) + 1 else 10 ^ (60 : Int).toNat - 1)]) hl9)
    have s16 := (up (o := .lst [V.int mid, .int 0, .int n3, .int (if leastL (reachL b ss ss.length) > 0 then leastL (reachL b ss ss.length) else 0), .int (if leastL (reachL b ss ss.length) + 1 < 10 ^ (60 : Int).toNat - 1 then leastL (reachL b ss ss.length) + 1 else 10 ^ (60 : Int).toNat - 1)]) hl9)
    have hR16 := hR15.same s16
    have hl16 := s16 _ _ hl15
    have hm16 := hm15.same s16
    have hlp16 := s16 _ _ hlp15
    have hy16 := hy15.same s16
    have h916 : upd H15 l9 (.lst [V.int mid, .int 0, .int n3, .int (if leastL (reachL b ss ss.length) > 0 then leastL (reachL b ss ss.length) else 0), .int (if leastL (reachL b ss ss.length) + 1 < 10 ^ (60 : Int).toNat - 1 then leastL (reachL b ss ss.length) + 1 else 10 ^ (60 : Int).toNat - 1)]) l9 = _ := upd_same
    have five : ∀ (i : Nat) (x : V), [V.int mid, .int 0, .int n3, .int (if leastL (reachL b ss ss.length) > 0 then leastL (reachL b ss ss.length) else 0), .int (if leastL (reachL b ss ss.length) + 1 < 10 ^ (60 : Int).toNat - 1 then leastL (reachL b ss ss.length) + 1 else 10 ^ (60 : Int).toNat - 1)][i]? = some x → ∃ n : Int, x = .int n ∧ 0 ≤ n ∧ n ≤ 10 ^ 60 - 1 := fun i x hx => by
      generalize leastL (reachL b ss ss.length) = m at hx rg
      rw [show (10 : Int) ^ (60 : Int).toNat = 10 ^ 60 from rfl] at hx
      have hm := List.mem_of_getElem? hx
      simp only [List.mem_cons, List.not_mem_nil, or_false] at hm
      rcases hm with rfl | rfl | rfl | rfl | rfl
      · exact ⟨_, rfl, mid0, by omega⟩
      · exact ⟨_, rfl, by decide, by decide⟩
      · exact ⟨_, rfl, n30, by omega⟩
      · refine ⟨_, rfl, ?_, ?_⟩ <;> (split <;> omega)
      · refine ⟨_, rfl, ?_, ?_⟩ <;> (split <;> omega)
    generalize [V.int mid, .int 0, .int n3, .int (if leastL (reachL b ss ss.length) > 0 then leastL (reachL b ss ss.length) else 0), .int (if leastL (reachL b ss ss.length) + 1 < 10 ^ (60 : Int).toNat - 1 then leastL (reachL b ss ss.length) + 1 else 10 ^ (60 : Int).toNat - 1)] = ns at five e16 s16 hR16 hl16 hm16 hlp16 hy16 h916 ⊢
    generalize upd H15 l9 (.lst ns) = H16 at e16 s16 hR16 hl16 hm16 hlp16 hy16 h916 ⊢
    clear hR14 hl14 hm14 hlp14 hy14 hR15 hl15 hm15 hlp15 hy15
    refine ⟨l9, rfl, ⟨_, SqL.of h916⟩, for_list (K := K) (a := l9) (xs := ns) (fun i σ H' => Same H16 H' ∧ ∃ v7 v11 v12 v13 v14 v15 v16 : Option V, σ = [some (.int c), some (.ref p), some (.int b), some (.int mid), some (.ref l), some (.ref r), some (.ref lp), v7, some (.int (leastL (reachL b ss ss.length))), some (.ref D2), some va, v11, v12, v13, v14, v15, v16]) ⟨Same.refl _, none, none, none, none, none, none, none, rfl⟩ (fun i σ H' _ h => SqL.of (h.1 _ _ h916)) ?_ ?_⟩
    · rintro i x σ H' hi ⟨hs, v7, v11, v12, v13, v14, v15, v16, rfl⟩
      obtain ⟨n, rfl, n0, n1⟩ := five i x hi
      have hR' := hR16.same hs
      obtain ⟨dx, t, q, zs, h1, h2, h3, h4⟩ := id hR'.at_
      refine ⟨_, rfl, r, dx, _, rfl, h1, rfl, _, rfl, r, ss, n, b, rfl, hR', n0, n1, fun v H17 hv s17 => ⟨_, _, rfl, rfl, ?_⟩⟩
      have s17 := hs.trans s17
      have hlp17 := s17 _ _ hlp16
      have hy17 := hy16.same s17
      refine ⟨_, rfl, lp, rfl, ⟨_, SqL.of hlp17⟩, fun D hD => ?_⟩
      refine lc_list (K := K) (a := lp) (xs := ys) (Pv := fun i H' => Same H17 H' ∧ H' D = some (.lst ((((reachL b ss ss.length).take i).map fun z => decide (n ≤ z.2)).map V.bl))) ⟨up hD, upd_same⟩ (fun i H' _ h => SqL.of (h.1 _ _ hlp17)) ?_ ?_
      · rintro i x H' hi ⟨hs, hd⟩
        obtain ⟨u, a, rfl, ha, hu⟩ := hy17.get hi
        have hil := (List.getElem?_eq_some_iff.mp ha).1
        refine ⟨u, _, rfl, SqT.of (hs _ _ hu), rfl, _, _, rfl, _, _, rfl, rfl, rfl, _, rfl, _, rfl, _, _, rfl, rfl, _, hd, ?_, fun y o e => ?_, ?_⟩
        · rw [List.length_map, List.length_map, List.length_take, sizeLine_eq]
          omega
        · rw [upd_ne (ne_of_none e hD)]
          exact hs _ _ e
        · rw [upd_same, List.take_succ, ha, List.map_append, List.map_append]
          rfl
      rintro H18 ⟨hs18, hd18⟩
      rw [hyl, List.take_length] at hd18
      have ev : v = (((reachL b ss ss.length).map fun z => decide (n ≤ z.2)).all id) := by
        rw [Bool.eq_iff_iff, hv, ft n n0 n1, all_least n1]
      refine ⟨D, _, rfl, SqL.of hd18, ?_⟩
      rw [← ev]
      refine ⟨_, _, rfl, rfl, rfl, _, rfl, ifn (fun z => absurd rfl z) (fun _ => ?_)⟩
      have s18 := s17.trans hs18
      have hl18 := s18 _ _ hl16
      have hm18 := hm16.same s18
      -- the stacks
      have e0 : ((xs.length : Nat) + 1 : Int).toNat = ss.length + 1 := by omega
      refine ⟨_, rfl, l, xs, rfl, .inl (SqL.of hl18), _, _, rfl, rfl, _, rfl, by omega, by omega, fun D3 hD3 => ?_⟩
      rw [e0]
      refine lc_range (lo := 0) (n := ss.length + 1) (Pv := fun i H' => Same H18 H' ∧ ∃ yp : List V, H' D3 = some (.lst yp) ∧ PilesAt K H' b ss yp i) ⟨up hD3, [], upd_same, rfl, fun j hj => absurd hj (Nat.not_lt_zero j)⟩ ?_ ?_
      · rintro k H' hk ⟨hs, yp, hd, hP⟩
        have zk : (0 : Int) + ((k : Nat) : Int) = ((k : Nat) : Int) := by omega
        have ec : cutV xs none (some (0 + ((k : Nat) : Int))) = xs.take k := by
          rw [zk]
          exact cut_to (by omega)
        refine ⟨rfl, _, rfl, _, rfl, _, rfl, l, xs, rfl, SqL.of (hs _ _ hl18), fun p1 hp1 => ?_⟩
        rw [ec]
        have t1 := hs.trans (up (o := .lst (xs.take k)) hp1)
        refine ⟨_, rfl, p1, _, ss.take k, b, rfl, upd_same, (hm18.same t1).take k, hR.rb.take k, b0, b1, fun qk H5 nq s5 st5 => ?_⟩
        have t5 := (up (o := .lst (xs.take k)) hp1).trans s5
        have hd5 := t5 _ _ hd
        refine ⟨yp, hd5, ?_, fun y o e => ?_, yp ++ [.ref qk], upd_same, ?_⟩
        · rw [hP.1, sizeLine_eq]
          have := hR.len
          omega
        · rw [upd_ne (ne_of_none e hD3)]
          exact t5 _ _ (hs _ _ e)
        · exact ((hP.same t5).snoc st5).keeps (keeps_put hd5)
      rintro H19 ⟨s19, yp, hd19, hP19⟩
      have s19 := s18.trans s19
      have hR19 := hR16.same s19
      obtain ⟨dx9, t9, q9, z9, h19, _⟩ := id hR19.at_
      have sh := trail_sho hR.rb hR.b0 hR.b1 hR.len n0 n1
      refine ⟨_, rfl, r, dx9, _, rfl, h19, rfl, _, rfl, r, ss, n, b, rfl, hR19, n0, n1, fun qt H20 nqt s20 hqt => ?_⟩
      refine ⟨qt, _, rfl, .tup (SqT.of hqt) (dp_ints _), sh.able, sh.nod, Nat.le_trans sh.deep (by decide), Nat.le_trans sh.long (by rw [sizeLine_eq]; decide), ?_⟩
      have hd20 := s20 _ _ hd19
      have hP20 := hP19.same s20
      have s20 := s19.trans s20
      have hpl := hP20.1
      refine ⟨_, rfl, D3, rfl, ⟨_, SqL.of hd20⟩, fun D4 hD4 => ?_⟩
      refine lc_list (K := K) (a := D3) (xs := yp) (Pv := fun i H' => Same H20 H' ∧ H' D4 = some (.lst ((List.range i).map fun j => V.int (grS b (onL (ss.take j)) n)))) ⟨up hD4, upd_same⟩ (fun i H' _ h => SqL.of (h.1 _ _ hd20)) ?_ ?_
      · rintro j x H' hi ⟨hs, hd⟩
        have hj : j < ss.length + 1 := by
          have := (List.getElem?_eq_some_iff.mp hi).1
          omega
        obtain ⟨qj, hqj, stj⟩ := hP20.2 j hj
        rw [hi] at hqj
        cases hqj
        have stj := stj.same hs
        obtain ⟨dj, tj, xj, g1, g2, g3⟩ := id stj
        refine ⟨rfl, _, rfl, qj, dj, _, rfl, g1, rfl, _, rfl, qj, b, _, n, rfl, stj, (hR.rb.take j).stk b0 b1, n0, n1, _, hd, ?_, fun y o e => ?_, ?_⟩
        · rw [List.length_map, List.length_range, sizeLine_eq]
          have := hR.len
          omega
        · rw [upd_ne (ne_of_none e hD4)]
          exact hs _ _ e
        · rw [upd_same, List.range_succ, List.map_append]
          rfl
      rintro H21 ⟨s21, hd21⟩
      rw [hpl, trail_eq hR.rb] at hd21
      have s21' := s20.trans s21
      refine ⟨D4, _, rfl, .inl ⟨SqL.of hd21, fun tt htt => ?_⟩⟩
      refine ⟨tt, _, rfl, .tup (SqT.of upd_same) (dp_ints _), sh.able, sh.nod, Nat.le_trans sh.deep (by decide), Nat.le_trans sh.long (by rw [sizeLine_eq]; decide), rfl, _, rfl, ifn (fun z => absurd rfl z) (fun _ => ?_)⟩
      exact ⟨s21'.trans (up htt), _, _, _, _, _, _, _, rfl⟩
    · rintro σ H' ⟨hs, v7, v11, v12, v13, v14, v15, v16, rfl⟩
      have hR' := hR16.same hs
      have so := hR.rb.stk b0 b1
      obtain ⟨dx, t, q, zs, h1, h2, h3, h4⟩ := id hR'.at_
      obtain ⟨dq, tq, xq, g1, g2, g3⟩ := id h4
      refine ⟨_, rfl, r, _, dx, _, _, rfl, h1, T.cl_Road, T.na_Road_stack, rfl, q, dq, _, rfl, g1, q, b, onL ss, rfl, h4, so, fun H17 s17 => ⟨_, rfl, ?_⟩⟩
      have u17 := hs.trans s17
      refine ⟨_, rfl, _, rfl, l, xs, ss, b, rfl, u17 _ _ hl16, hm16.same u17, hR.rb, b0, b1, fun q2 H18 nq2 s18 st2 => ?_⟩
      obtain ⟨d2, t2, x2, k1, k2, k3⟩ := id st2
      refine ⟨q2, d2, _, rfl, k1, q2, b, onL ss, rfl, st2, so, fun H19 s19 => ⟨_, rfl, rfl, _, rfl, ifn (fun z => absurd rfl z) (fun _ => ?_)⟩⟩
      have w19 := (s17.trans s18).trans s19
      have u19 := hs.trans w19
      refine ⟨_, rfl, r, _, dx, _, _, rfl, w19 _ _ h1, T.cl_Road, T.na_Road_stack, rfl, _, rfl, _, rfl, l, xs, ss, b, rfl, u19 _ _ hl16, hm16.same u19, hR.rb, b0, b1, fun q3 H20 nq3 s20 st3 => ?_⟩
      obtain ⟨d3, t3, x3, j1, j2, j3⟩ := id st3
      have w20 := w19.trans s20
      refine ⟨q, q3, dq, _, d3, _, rfl, rfl, w20 _ _ g1, j1, q, q3, rfl, ⟨b, onL ss, h4.same w20, st3⟩, fun H21 s21 => ⟨true, rfl, _, rfl, iteF ?_⟩⟩
      have w21 := w20.trans s21
      have u21 := hs.trans w21
      have hR21 := hR'.same w21
      refine ⟨_, rfl, r, dx, _, rfl, w21 _ _ h1, rfl, r, ss, b, rfl, hR21, fun ti H22 nti _ s22 hti => ?_⟩
      have u22 := u21.trans s22
      have hlp22 := u22 _ _ hlp16
      have hy22 := hy16.same u22
      refine ⟨ti, rfl, ⟨_, SqT.of hti⟩, for_tup (K := K) (a := ti) (xs := (idleL b ss).map V.int) (fun i σ H' => Same H22 H' ∧ ∃ v7 v11 v12 v13 v14 v15 v16 : Option V, σ = [some (.int c), some (.ref p), some (.int b), some (.int mid), some (.ref l), some (.ref r), some (.ref lp), v7, some (.int (leastL (reachL b ss ss.length))), some (.ref D2), some va, v11, v12, v13, v14, v15, v16]) ⟨Same.refl _, _, _, _, _, _, _, _, rfl⟩ (fun i σ H' _ h => SqT.of (h.1 _ _ hti)) ?_ ?_⟩
      · rintro i x σ H' hi ⟨hs, v7, v11, v12, v13, v14, v15, v16, rfl⟩
        obtain ⟨k, hk, rfl⟩ := List.mem_map.mp (List.mem_of_getElem? hi)
        have hk2 : leastL (othL (reachL b ss ss.length) k) = leastL (reachL b ss ss.length) := of_decide_eq_true (List.mem_filter.mp hk).2
        have hlp' := hs _ _ hlp22
        have hy' := hy22.same hs
        refine ⟨_, _, rfl, rfl, ⟨by decide, by decide, by decide⟩, _, _, rfl, rfl, (by show 1 ≤ sizeLine; decide), fun l1 hl1 => ?_⟩
        refine ⟨_, rfl, lp, rfl, ⟨_, SqL.of (up hl1 _ _ hlp')⟩, fun D hD => ?_⟩
        refine lc_list (K := K) (a := lp) (xs := ys) (Pv := fun i H3 => Same (upd H' l1 (.lst [.int (10 ^ 60 - 1)])) H3 ∧ H3 D = some (.lst ((((reachL b ss ss.length).take i).filter fun z => !decide (z.1 = k)).map fun z => V.int z.2))) ⟨up hD, upd_same⟩ (fun i H' _ h => SqL.of (h.1 _ _ (up hl1 _ _ hlp'))) ?_ ?_
        · rintro j x H3 hj ⟨hs3, hd⟩
          obtain ⟨u, a, rfl, ha, hu⟩ := hy'.get hj
          have hil := (List.getElem?_eq_some_iff.mp ha).1
          have et : (reachL b ss ss.length).take (j + 1) = (reachL b ss ss.length).take j ++ [a] := by
            rw [List.take_succ, ha]
            rfl
          generalize reachL b ss ss.length = ps at hil et hd rl ⊢
          refine ⟨u, _, rfl, SqT.of (hs3 _ _ (up hl1 _ _ hu)), rfl, _, _, rfl, _, _, rfl, rfl, rfl, _, rfl, _, rfl, _, _, rfl, rfl, _, rfl, ifn (fun z => ?_) (fun z => ?_)⟩
          · have z : ¬ a.1 = k := z
            refine ⟨_, rfl, _, hd, ?_, fun y o e => ?_, ?_⟩
            · rw [List.length_map, sizeLine_eq]
              have h1 := List.length_filter_le (fun z : Int × Int => !decide (z.1 = k)) (ps.take j)
              have h2 := List.length_take_le' j ps
              omega
            · rw [upd_ne (ne_of_none e hD)]
              exact hs3 _ _ e
            · rw [upd_same, et, List.filter_append, List.map_append]
              simp [z]
          · have z : a.1 = k := z
            refine ⟨hs3, ?_⟩
            rw [hd, et, List.filter_append]
            simp [z]
        rintro H3 ⟨hs3, hd3⟩
        rw [hyl, List.take_length] at hd3
        refine ⟨l1, D, _, _, rfl, rfl, hs3 _ _ upd_same, hd3, ?_, fun l3 hl3 => ?_⟩
        · have h1 := List.length_filter_le (fun z : Int × Int => !decide (z.1 = k)) (reachL b ss ss.length)
          rw [List.length_map, List.length_singleton, sizeLine_eq]
          omega
        have el : [V.int (10 ^ 60 - 1)] ++ ((reachL b ss ss.length).filter fun z => !decide (z.1 = k)).map (fun z => V.int z.2) = ((10 ^ 60 - 1) :: (othL (reachL b ss ss.length) k).map (·.2)).map V.int := by unfold othL; simp
        refine ⟨l3, (10 ^ 60 - 1) :: (othL (reachL b ss ss.length) k).map (·.2), rfl, SqL.of (by rw [← el]; exact upd_same), by simp, fun m hm' hle => ?_⟩
        have em := (leastL_eq hm' hle).trans hk2
        refine ⟨_, rfl, _, rfl, _, _, rfl, rfl, _, rfl, ifn (fun z => absurd em z) (fun _ => ?_)⟩
        exact ⟨((hs.trans (up hl1)).trans hs3).trans (up hl3), _, _, _, _, _, _, _, rfl⟩
      · rintro σ H' ⟨hs, v7, v11, v12, v13, v14, v15, v16, rfl⟩
        exact k _ ((e16.trans u22).trans hs)
end
section
variable {P : Program} {w : World} {K : PySem.W.Frag} {mg : Str → Option Value} {base : Heap}
theorem ok_law (T : Tx w K mg) : PromG P w K mg base 13 "law" s_law ["_law_cells"] (spLaw K) := by
  refine PromG.of T.d_law sc_law (fun vs H Q E h => ?_) (fun _ _ _ _ _ _ us hl => match us, hl with | [_], _ => rfl) (fun f cdv A outer s H vs Q E hr hgd h => ?_)
  · obtain ⟨a, ns, rfl, _⟩ := h
    rfl
  · obtain ⟨a, ns, rfl, hS, hl, hz, k⟩ := h
    refine ⟨_, (pss_one (ps_ret (pe_callB (cr_all rfl) (by rfl) T.b_all (by decide +kernel) (pa_cons (pe_lc (own := [("_law_k", 1)]) (g := (gName 1)) (tt := tYes) (by rfl) sc_law.nd (pi_range1 (by rfl) T.b_range (pa_cons (pe_callB (call_max2 rfl) (by rfl) T.b_max (by decide +kernel) (pa_cons pe_int (pa_cons (pe_callB (call_min2 rfl) (by rfl) T.b_min (by decide +kernel) (pa_cons (pe_callB call_len_seq (by rfl) T.b_len (by decide +kernel) (pa_cons (pv 0) pa_nil)) (pa_cons pe_int pa_nil))) pa_nil))) pa_nil)) (blkOk_by (own := [("_law_k", 1)]) (N := ["_law_cells", "_law_k"]) (sc := defScope s_law) (by decide +kernel)) (fun _ _ _ _ _ => (pg_name (i := 1) sc_law.nd rfl (Or.inl rfl))) (fun _ _ _ _ _ => pts_nil) (fun _ _ _ _ _ => (pe_callG (ok_L_right T) hgd (hr.mono (by decide)) (by rfl) (pa_cons (pe_callP (ok_L_cell T) (hr.mono (by decide)) (by rfl) pass0 (pa_cons (pv 0) (pa_cons (pv 1) pa_nil))) pa_nil)))) pa_nil)))), ?_⟩
    refine ⟨_, rfl, _, _, rfl, .inl hS, _, _, rfl, _, _, rfl, _, rfl, ?_, ?_, fun D hD => ?_⟩
    · split <;> split <;> omega
    · split <;> split <;> omega
    refine lc_range (lo := 0) (Pv := fun i H' => Same H H' ∧ H' D = some (.lst (List.replicate i (.bl true)))) ⟨fun b o e => by rw [upd_ne (ne_of_none e hD)]; exact e, upd_same⟩ ?_ ?_
    · rintro i H' hi ⟨hs, hl2⟩
      refine ⟨rfl, _, rfl, _, rfl, a, ns, _, rfl, hs.seq hS, by omega, ?_, fun z => ?_⟩
      · rw [List.length_map] at hi
        split at hi <;> split at hi <;> omega
      refine ⟨z, rfl, fun H4 s4 => ?_⟩
      refine ⟨_, s4 _ _ hl2, ?_, fun b o e => ?_, ?_⟩
      · rw [List.length_replicate]
        rw [List.length_map] at hi
        refine Nat.lt_of_lt_of_le (m := 100) ?_ (by decide)
        split at hi <;> split at hi <;> omega
      · rw [upd_ne (ne_of_none e hD)]
        exact s4 _ _ (hs _ _ e)
      · rw [upd_same, List.replicate_succ']
    · rintro H' ⟨hs, hl2⟩
      refine ⟨D, List.replicate _ true, rfl, SqL.of (by rw [List.map_replicate]; exact hl2), ?_⟩
      have e : ∀ n : Nat, (List.replicate n true).all id = true := fun n => by simp
      show Q (.bl ((List.replicate _ true).all id)) H'
      rw [e]
      exact k _
end
theorem facts {P : Program} {w : World} {K : PySem.W.Frag} {h : Heap} {mg : Str → Option Value} {f : Addr} (X : K.In h) (G : h.Ns mainGlobals mg) (hfa : mg ("law" : Str) = some (.ref f)) (c0 : SaysX fbL faL fnL tabL w K) :
    ∃ fd : FuncData, (∀ (s : Shared) (v : Value), BindsTo s fd ⟨[v], []⟩ [("_law_cells", v)]) ∧ ∀ base : Heap, K.In base → base.Ns mainGlobals mg → FnG P w K mg base 13 f fd ["_law_cells"] (spLaw K) := by
  have T := tx_of (w := w) X G c0
  have c : He.SaysD faL fnL K := c0.t.d
  obtain ⟨fd, F⟩ := c.def_ 49 (d := dd_law) rfl
  have hm := He.glo_ok X G (c.fact 49 (f := .glo "law") rfl)
  have e := hfa.symm.trans hm
  cases e
  have b := FunD.bindsA (ps := ["_law_cells"]) F fun _ _ _ _ _ _ us hl => match us, hl with | [_], _ => rfl
  refine ⟨fd, fun s v => b s [v] rfl, fun base _ _ => ?_⟩
  obtain ⟨f', fd', F', hm', D', _⟩ := (ok_law (P := P) (w := w) (base := base) T).ex
  cases hm.symm.trans hm'
  have efd : fd' = fd := by
    obtain ⟨_, _, _, _, _, _, _, _, _, _, _, l1, _⟩ := F.ex
    obtain ⟨_, _, _, _, _, _, _, _, _, _, _, l2, _⟩ := D'.ex
    have l2' := l2.symm.trans l1
    injection l2' with l3
    injection l3 with _ _ l4 _
    injection l4
  rw [← efd]
  exact F' 
end Sz
open PySem PySem.W PySem.Calls PyProof.Rows in
set_option maxRecDepth 100000 in
set_option maxHeartbeats 0 in
theorem PySem.Challenge.cw_sizestacks_k54_whole_bounds_and_payloads_holds : PySem.Challenge.rw_sizestacks_k54_whole_bounds_and_payloads.Holds := by
  w_on; o_law
  refine HandSHeadRun.head_any (r := OpenLaw.row PySem.Challenge.rw_sizestacks_k54_whole_bounds_and_payloads) (q := view (OpenLaw.row PySem.Challenge.rw_sizestacks_k54_whole_bounds_and_payloads).prog [86]) (H := Sz.hk) (ob := Sz.ob) (M := 30000) (loose := Sz.looseL) (d := HandSHeadRun.topDef (OpenLaw.row PySem.Challenge.rw_sizestacks_k54_whole_bounds_and_payloads).prog 86) (kwd := []) Sz.ob_eq
    (by kernel_rfl) (fun z => by kernel_rfl) Sz.run (by kernel_rfl) (by kernel_rfl) (by kernel_rfl) (by rfl) (by first | assumption | decide +kernel) (by decide +kernel) ⟨rfl, rfl, rfl, rfl, rfl, by decide +kernel⟩ ?hw ?hc
  case hw => w_witness2
  case hc =>
    refine Sz.walk_ofG (l := PySem.Challenge.rw_sizestacks_k54_whole_bounds_and_payloads) (n := 63) (k := 13) (x := "_law_cells") rfl (by decide) (by kernel_rfl) ⟨rfl, by decide, by decide⟩ ?F
    intro w mg fa h Y G hmg0
    obtain ⟨K, KX, c⟩ := Y
    have hmg : mg ("law" : PySem.Str) = some (.ref fa) := by
      have e : (HandSHeadRun.topDef (OpenLaw.row PySem.Challenge.rw_sizestacks_k54_whole_bounds_and_payloads).prog 86).name = ("law" : PySem.Str) := by kernel_rfl
      rw [← e]
      exact hmg0
    obtain ⟨fd, hb, hF⟩ := Sz.facts (P := (PySem.Challenge.rw_sizestacks_k54_whole_bounds_and_payloads).prog) (w := w) KX G hmg c
    exact ⟨K, fd, Sz.spLaw K, KX, hb, fun H a ns hl hz hS => ⟨a, ns, rfl, hS, hl, hz, fun _ => rfl⟩, hF⟩
