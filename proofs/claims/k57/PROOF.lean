import PyProof.Rows.All
import Wide.All
import OpenK.AllK
import Wide.FinOn
import KE.KStateDown
import HandS.ForMost
import HandS.Exc
import HandS.Wide
import HandS.WideBits
import HandS.IsInst
import HandS.Style
import HandS.RaiseMore
import HandS.Defaults
import HandS.Evl
import HandS.EndBits
import HandS.Words
import HandS.WordsExc
import HandS.Head0
import HandS.Head1
import HandS.Head2
import HandS.HeadEnd
import HandS.HeadHook1
import HandS.HeadHook2
import HandS.HeadHook3
import HandS.Star
import HandS.FStr
import HandS.Text
import HandS.Walk
import KE.GoesMore
import PyProof.LongRange
import HandS.Conv
import PyProof.StrLawsRepr
import PyProof.InstSpecial
import HandS.OwnEq
import KE.KFmtOwn
import PyProof.InstNe
import HandS.SetBool
import HandS.Strs
import HandS.SortInts
import HandS.Zip
import HandS.TupAny
import HandS.DeepEq
import PySem.Challenge.RW_sizestacks_k57_doubled_judged
set_option Elab.async false
set_option linter.all false
set_option maxRecDepth 100000
set_option maxHeartbeats 4000000
set_option exponentiation.threshold 20000
/-! Own base: a def by its promise, a few rules more. -/
namespace Sz
open PySem PySem.Spec PyProof.Rows L2

/-- a def of the text, by its name -/
def DefAt (K : PySem.W.Frag) (mg : Str → Option Value) (x : Str) (st : Stmt) : Prop :=
  ∃ f fd, FunD K x x (defArgs st) (defBody st) (defScope st) [] [] f fd ∧ mg x = some (.ref f)

/-- the def named x keeps the promise sp -/
structure Prom (P : Program) (w : World) (K : PySem.W.Frag) (mg : Str → Option Value) (base : Heap) (CX : CXT) (k : Nat) (x : Str) (st : Stmt) (ps : List Str) (sp : Sp) : Prop where
  ex : ∃ f fd, FnOk P w K mg base CX k f fd ps sp ∧ mg x = some (.ref f) ∧ FunD K x x (defArgs st) (defBody st) (defScope st) [] [] f fd ∧ Binds K fd ps []

section
variable {P : Program} {w : World} {K : PySem.W.Frag} {mg : Str → Option Value} {base : Heap}
theorem Prom.of {x : Str} {st : Stmt} {ps N : List Str} {sp : Sp} {k : Nat} (D : DefAt K mg x st) (S : FnScope N ps (defScope st)) (len : ∀ vs H Q E, sp vs H Q E → vs.length = ps.length)
    (hb : ∀ (kV doc pm : Value) (an : Option Addr) (cdv ct : Value) (us : List Value), us.length = ps.length → bindArgs (PySem.W.fnOf x x (defArgs st) (defBody st) (defScope st) .none kV doc pm an cdv ct) ⟨us, []⟩ = pure (ps.zip us))
    (hbody : ∀ (f : Addr) (cdv : Value) (A : Around) (outer : List Env) (s : Shared) (H : Hp) (vs : List V) (Q : VK) (E : XK), Room k (A.deeper (envOfC x (defScope st) s.heap.objs.size f cdv)) → sp vs H Q E →
      ∃ t, PSs (cxOf CX0 P w K mg base N x (defScope st) f cdv A outer s H E).nox (defBody st) t ∧ t { nx := fun _ H' => Q .non H', rt := Q } (start N vs) H) :
    Prom P w K mg base CX0 (k + 1) x st ps sp := by
  obtain ⟨f, fd, F, hm⟩ := D
  refine ⟨f, fd, F.ok S len (fun cdv A outer s H vs Q E hr hs => ?_), hm, F, F.bindsN hb⟩
  obtain ⟨t, h1, h2⟩ := hbody f cdv A outer s H vs Q E hr hs
  exact ⟨t, h1.nox, h2⟩
end

section
variable {X : Cx} {CX : CXT} {k : Nat} {x : Str} {st : Stmt} {ps : List Str} {sp : Sp} {E : XK} {e : Expr} {es : List Expr} {t tk : TA} {p pos : Pos} {kws : List Keyword} {ks : List Str}
theorem pe_callP (G : Prom X.prog X.w X.K X.mg X.base CX k x st ps sp) (hr : Room k X.A) (hg : Gl X x) (hx : Passes CX X E) (ha : PA X (e :: es) t)
    (hdb : (x == ("__debug__" : Str)) = false := by decide) (he : starEach (e :: es) X.env = (false, eval e X.env) :: starEach es X.env := by rfl) (hpl : (backTo pos (starEach es X.env)).any (·.1) = false := by rfl) :
    PE X (.Call (.Name x p) (e :: es) [] pos) (tCall sp [] E t) := by
  obtain ⟨f, fd, F, hm, D, hb⟩ := G.ex
  exact pe_call F hr hg hm D.kp hb .nil hx ha hdb he hpl
/-- f(k = v, ..), keywords alone -/
theorem pe_callKP {g : List Value → List Value → List Value} {gV : List V → List V → List V} (G : Prom X.prog X.w X.K X.mg X.base CX k x st ps sp) (hr : Room k X.A) (hg : Gl X x) 
    (hb : ∀ fd f, FunD X.K x x (defArgs st) (defBody st) (defScope st) [] [] f fd → KBinds X.K fd ps ks g gV) (hx : Passes CX X E)
    (hkw : PK X kws tk) (hall : (backToKw pos (keywordEach kws X.env)).all (·.1.isSome) = true := by rfl) (hks : (backToKw pos (keywordEach kws X.env)).filterMap (·.1) = ks := by rfl)
    (hdb : (x == ("__debug__" : Str)) = false := by decide)
    (hpl : ((backTo pos (starEach [] X.env)).any (·.1) || (backToKw pos (keywordEach kws X.env)).any (·.1.isNone)) = false := by rfl) :
    PE X (.Call (.Name x p) [] kws pos) (tCallK sp gV E tNil tk) := by
  obtain ⟨f, fd, F, hm, D, _⟩ := G.ex
  have hb := hb fd f D
  refine ⟨fun pins s σ H Q I h => ?_⟩
  refine wpAny_Call_Name_kw (ld_glob I hg hm ?_ hdb)
  refine PySem.W.callWith_KW0 (h₀ := X.base) I.ok.mod.kin D.kp hall (thn (hkw.run pos pins s σ H _ I h) fun ws s2 z => ?_) hpl
  obtain ⟨zs, H2, I2, rz, q2⟩ := z
  refine ⟨I2.kIn, ?_⟩
  rw [hks]
  exact run_fnk F hr hb hx I2 .nil rz q2
/-- the keywords' values put in the parameters' order -/
def perm {α : Type} (ix : List Nat) (us ws : List α) : List α := match us with
  | [] => if ws.length = ix.length then ix.filterMap fun i => ws[i]? else []
  | _ :: _ => []
theorem perm_vals {ix : List Nat} {vs zs : List V} {us ws : List Value} (r : Vals vs us) (z : Vals zs ws) : Vals (perm ix vs zs) (perm ix us ws) := by
  cases r with
  | cons _ _ => exact .nil
  | nil =>
    show Vals (if zs.length = ix.length then _ else _) (if ws.length = ix.length then _ else _)
    rw [z.length]
    by_cases c : ws.length = ix.length
    · rw [if_pos c, if_pos c]
      clear c
      induction ix with
      | nil => exact .nil
      | cons i ix ih =>
        rw [List.filterMap_cons, List.filterMap_cons]
        cases e : zs[i]? with
        | none =>
          rw [z.none_of e]
          exact ih
        | some v =>
          obtain ⟨u, hu, rv⟩ := z.get e
          rw [hu]
          exact .cons rv ih
    · rw [if_neg c, if_neg c]
      exact .nil
theorem kb_of {K : PySem.W.Frag} (ix : List Nat) (hne : 0 < ps.length)
    (h : ∀ (kV doc pm : Value) (an : Option Addr) (cdv ct : Value) (ws : List Value), ws.length = ix.length → bindArgs (PySem.W.fnOf x x (defArgs st) (defBody st) (defScope st) .none kV doc pm an cdv ct) ⟨[], ks.zip ws⟩ = pure (ps.zip (perm ix [] ws))) :
    ∀ fd f, FunD K x x (defArgs st) (defBody st) (defScope st) [] [] f fd → KBinds K fd ps ks (perm ix) (perm ix) := fun fd f F => by
  obtain ⟨oc, od, dV, kV, doc, pm, an, cdv, ct, osl, rfl, lk, hcd, hD, hK⟩ := F.ex
  rcases hD with ⟨_, rfl⟩ | ⟨e, _⟩
  · refine ⟨fun s us ws _ hl => ?_, fun r z => perm_vals r z⟩
    cases us with
    | cons u us =>
      have e0 : (perm ix (u :: us) ws).length = 0 := rfl
      omega
    | nil =>
      by_cases c : ws.length = ix.length
      · exact .of_eq (h kV doc pm an cdv ct ws c)
      · have e0 : perm ix [] ws = [] := if_neg c
        rw [e0] at hl
        simp at hl
        omega
  · exact absurd rfl e
/-- a constant of the module -/
theorem pe_gint {v : Int} (h : ∃ u, X.mg x = some (.int v u)) (hg : Gl X x := by rfl) (hd : (x == ("__debug__" : Str)) = false := by decide) : PE X (.Name x pos) (tC (.int v)) := by
  obtain ⟨u, hm⟩ := h
  exact pe_glob hg hm ⟨_, rfl⟩ hd
theorem op_isnotBl : OpR X (compareOp .IsNot) (fun x y H Q => ∃ b : Bool, y = .bl b ∧ Q (.bl (!decide (x = .bl b))) H) := by
  intro pins s σ H x y v u Q I rx ry h
  obtain ⟨b, rfl, q⟩ := h
  cases (show u = Value.bool b from ry)
  have key : plainIs v (Value.bool b) = true ∧ (v = Value.bool b ↔ x = .bl b) := by
    cases x with
    | non => cases (show v = Value.none from rx); exact ⟨rfl, by constructor <;> intro z <;> cases z⟩
    | bl c => cases (show v = Value.bool c from rx); exact ⟨rfl, by constructor <;> intro z <;> cases z <;> rfl⟩
    | int i => obtain ⟨t, rfl⟩ := (show ∃ t, v = Value.int i t from rx); exact ⟨rfl, by constructor <;> intro z <;> cases z⟩
    | str i => obtain ⟨t, rfl⟩ := (show ∃ t, v = Value.str i t from rx); exact ⟨rfl, by constructor <;> intro z <;> cases z⟩
    | byt i => obtain ⟨t, rfl⟩ := (show ∃ t, v = Value.bytes i t from rx); exact ⟨rfl, by constructor <;> intro z <;> cases z⟩
    | flt i => obtain ⟨t, rfl⟩ := (show ∃ t, v = Value.float i t from rx); exact ⟨rfl, by constructor <;> intro z <;> cases z⟩
    | ref a => cases (show v = Value.ref a from rx); exact ⟨rfl, by constructor <;> intro z <;> cases z⟩
    | ty n => cases (show v = Value.type n from rx); exact ⟨rfl, by constructor <;> intro z <;> cases z⟩
  by_cases e : x = .bl b
  · have ev := key.2.mpr e
    subst ev
    exact wpAny_isNot_self rfl ⟨.bl false, H, I, rfl, by simpa [e] using q⟩
  · exact wpAny_isNot_other key.1 (fun z => e (key.2.mp z)) ⟨.bl true, H, I, rfl, by simpa [e] using q⟩
/-- repr of a flat value -/
def flatShown : V → Option Str
  | .non => some "None"
  | .bl b => some (if b then "True" else "False")
  | .int i => if i.natAbs.log2 < 1920 then some (toString i) else none
  | _ => none
theorem cr_repr : CallR X (.builtin "repr") (fun xs H Q => ∃ v z, xs = [v] ∧ flatShown v = some z ∧ Q (.str z) H) := by
  intro pins s σ H xs us Q I r h
  obtain ⟨v, z, rfl, hz, q⟩ := h
  obtain ⟨u, rfl, ru⟩ := vals1 r
  cases v with
  | non =>
    cases (show u = Value.none from ru)
    obtain rfl : ("None" : Str) = z := Option.some.inj hz
    exact PySem.P.repr_of_none ⟨.str _, H, I.tok _, ⟨_, rfl⟩, q⟩
  | bl b =>
    cases (show u = Value.bool b from ru)
    obtain rfl : (if b then "True" else "False" : Str) = z := Option.some.inj hz
    exact PySem.P.repr_of_bool ⟨.str _, H, I.tok _, ⟨_, rfl⟩, q⟩
  | int i =>
    obtain ⟨t, rfl⟩ := (show ∃ t, u = Value.int i t from ru)
    have hz2 : (if i.natAbs.log2 < 1920 then some (toString i : Str) else none) = some z := hz
    by_cases c : i.natAbs.log2 < 1920
    · rw [if_pos c] at hz2
      obtain rfl := Option.some.inj hz2
      exact PySem.P.repr_of_int c ⟨.str _, H, I.tok _, ⟨_, rfl⟩, q⟩
    · rw [if_neg c] at hz2
      cases hz2
  | _ => cases hz
/-- a power of any size that the model takes -/
def CPowW (i j : Int) : Prop := 1 < i ∧ 0 < j ∧ ∃ n : Nat, i.natAbs < 2 ^ n ∧ (n : Int) * j ≤ 134217728
theorem op_powW : OpR X (binaryOp .Pow) (rI CPowW fun i j => .int (i ^ j.toNat)) := opI fun i j t u s Q E hc q => by
  obtain ⟨h1, h2, n, h3, h4⟩ := hc
  have hb : ¬ Builtin.Int.intTooBig (((Builtin.Int.intBits i : Nat) : Int) * j) = true := by
    have e : bitsLine = 134217728 := by decide
    have b := PyProof.Rows.intBits_le h3
    have m : ((Builtin.Int.intBits i : Nat) : Int) * j ≤ (n : Int) * j := Int.mul_le_mul_of_nonneg_right (by omega) (by omega)
    unfold Builtin.Int.intTooBig
    rw [decide_eq_true_eq, e]
    omega
  refine PySem.AutoIntOps.pow_4 (by omega) (by simpa using (show ¬ j = 0 by omega)) (by simpa using (show ¬ i = 0 ∧ ¬ i = 1 by omega)) (by simpa using (show ¬ i = -1 by omega)) hb ?_
  exact q
/-- divmod by a positive number of at most 30 figures -/
theorem divp_small {i j : Int} (h : 0 < j) (h2 : j ≤ 1000000000000000000000000000000) : CDivP i j := by
  refine ⟨h, PyProof.noPylong_of_log2 ?_⟩
  have h3 : j.natAbs < 2 ^ 200 := Nat.lt_of_le_of_lt (show j.natAbs ≤ 1000000000000000000000000000000 by omega) (by decide)
  exact Nat.lt_of_lt_of_le (PySem.Flt.log2_lt_of (by decide) h3) (by decide)
end
/-! ### what an if's test says -/
theorem ifd {c A B : Prop} [Decidable c] (h1 : c → A) (h2 : ¬ c → B) : if decide c = true then A else B := by
  by_cases h : c
  · rw [decide_eq_true h, if_pos rfl]; exact h1 h
  · rw [decide_eq_false h, if_neg Bool.false_ne_true]; exact h2 h
theorem ifd_pos {c A B : Prop} [Decidable c] (h : c) (hA : A) : if decide c = true then A else B := by
  rw [decide_eq_true h, if_pos rfl]; exact hA
theorem ifd_neg {c A B : Prop} [Decidable c] (h : ¬ c) (hB : B) : if decide c = true then A else B := by
  rw [decide_eq_false h, if_neg Bool.false_ne_true]; exact hB
theorem ifn {c A B : Prop} [Decidable c] (h1 : ¬ c → A) (h2 : c → B) : if (!decide c) = true then A else B := by
  by_cases h : c
  · rw [decide_eq_true h]; exact h2 h
  · rw [decide_eq_false h]; exact h1 h
/-- all but p stands as it stood -/
def Kp (p : Addr) (H H' : Hp) : Prop := ∀ b o, b ≠ p → H b = some o → H' b = some o
theorem Kp.refl (p : Addr) (H : Hp) : Kp p H H := fun _ _ _ h => h
theorem Kp.trans {p : Addr} {H H1 H2 : Hp} (a : Kp p H H1) (b : Kp p H1 H2) : Kp p H H2 := fun c o n h => b c o n (a c o n h)
theorem Kp.set {p : Addr} {H H' : Hp} {o : HO} (a : Kp p H H') : Kp p H (L2.upd H' p o) := fun b u n h => by
  rw [upd_ne n]
  exact a b u n h
theorem Kp.new {p q : Addr} {H H' : Hp} {o : HO} (a : Kp p H H') (h : H' q = none) : Kp p H (upd H' q o) := fun b u n e => by
  have e2 := a b u n e
  rw [upd_ne (ne_of_none e2 h)]
  exact e2
end Sz
namespace Sz
open PySem PySem.Spec PyProof.Rows L2
/-! ### defs that show containers: nothing is being shown around their call -/
structure FnG (P : Program) (w : World) (K : PySem.W.Frag) (mg : Str → Option Value) (base : Heap) (k : Nat) (f : Addr) (fd : FuncData) (ps : List Str) (sp : Sp) : Prop where
  len : ∀ vs H Q E, sp vs H Q E → vs.length = ps.length
  run : ∀ (A : Around) (outer : List Env) (s : Shared) (H : Hp) (args : Args) (us : List Value) (vs : List V) (Q : VK) (E : XK), Room k A → A.guards = some [] → Env0 P w K mg base A outer s H →
    BindsTo s fd args (ps.zip us) → Vals vs us → sp vs H Q E → codeAny (model P w) A (.call (.ref f) args) (CR CX0 outer P w H s Q E) s
theorem FnG.of {P : Program} {w : World} {K : PySem.W.Frag} {mg : Str → Option Value} {base : Heap} {k : Nat} {f : Addr} {fd : FuncData} {ps : List Str} {sp : Sp} (F : FnOk P w K mg base CX0 k f fd ps sp) : FnG P w K mg base k f fd ps sp :=
  ⟨F.len, fun A outer s H args us vs Q E hr _ e0 hb r h => F.run A outer s H args us vs Q E hr e0 hb r h⟩
/-- from the body -/
theorem fnG_of {P : Program} {w : World} {K : PySem.W.Frag} {mg : Str → Option Value} {base : Heap} {k : Nat} {f : Addr} {x q : Str} {pr : Arguments} {bd : List Stmt} {sc : Scope} {dvs : List V} {kws : List (Str × V)} {fd : FuncData} {N ps : List Str} {sp : Sp}
    (F : FunD K x q pr bd sc dvs kws f fd) (S : FnScope N ps sc) (len : ∀ vs H Q E, sp vs H Q E → vs.length = ps.length)
    (hbody : ∀ (cdv : Value) (A : Around) (outer : List Env) (s : Shared) (H : Hp) (vs : List V) (Q : VK) (E : XK), Room k (A.deeper (envOfC q sc s.heap.objs.size f cdv)) → (A.deeper (envOfC q sc s.heap.objs.size f cdv)).guards = some [] → sp vs H Q E →
      ∃ t, PSs (cxOf CX0 P w K mg base N q sc f cdv A outer s H E).nox bd t ∧ t { nx := fun _ H' => Q .non H', rt := Q } (start N vs) H) : FnG P w K mg base (k + 1) f fd ps sp := by
  obtain ⟨c1, c2, c3, c4, c5, c6, c7, cdv, c9, c10, rfl, look, code, _, _⟩ := F.ex
  refine ⟨len, fun A outer s H args us vs Q E room gd e0 hbind rel want => ?_⟩
  have old : ∀ b o, base.get? b = some o → s.heap.get? b = some o := fun b o e => (e0.bs b o e).1
  have inK : K.In s.heap := e0.mod.kin.keeps old
  have kinds : ∀ y ∈ ps.zip us, sc.names.lookup y.1 = some .local ∨ (sc.names.lookup y.1 = some .cell ∧ ((cellsFrom (s.heap.objs.size + 1) sc.names []).lookup y.1).isSome = true) := by
    rintro ⟨n, v⟩ hy
    have hm : n ∈ ps := (List.of_mem_zip hy).1
    cases S.par n hm with
    | inl z => exact Or.inl z
    | inr z => exact Or.inr ⟨z, PySem.W.cellsFrom_some _ _ _ (.inl z)⟩
  obtain ⟨t, dt, rt⟩ := hbody cdv A outer s H vs Q E (room.deeper _) gd want
  have dt := dt.nox
  refine codeAny_call_function room.depth (inK _ _ look) rfl S.co S.gen rfl (PySem.W.codeRec_of inK code) ?_
  refine hbind _ _ _ _ (wpAny_newFunctionEnv_cells S.kind kinds ?_)
  rintro _ rfl s1 ic
  refine ⟨(e0.mod.nolimit.keeps old).keeps ic.toInCall.keep, codeAny_func ?_⟩
  refine wpAny_mono (dt.run [] s1 (start N vs) H _ (inv_start S room.hd e0 (len _ _ _ _ want) rel ic) rt) ?_ (fun _ _ z => z)
  intro fl s' hs
  cases fl with
  | ret u => exact let ⟨v, _, H', J, rv, qv⟩ := hs; ⟨v, H', J.os, J.bare, J.base, J.hok, rv, qv⟩
  | next => exact let ⟨_, H', J, qv⟩ := hs; ⟨.non, H', J.os, J.bare, J.base, J.hok, rfl, qv⟩
  | brk => exact let ⟨_, _, _, qv⟩ := hs; False.elim qv
  | cont => exact let ⟨_, _, _, qv⟩ := hs; False.elim qv
/-- the def named x keeps the promise sp where nothing is being shown -/
structure PromG (P : Program) (w : World) (K : PySem.W.Frag) (mg : Str → Option Value) (base : Heap) (k : Nat) (x : Str) (st : Stmt) (ps : List Str) (sp : Sp) : Prop where
  ex : ∃ f fd, FnG P w K mg base k f fd ps sp ∧ mg x = some (.ref f) ∧ FunD K x x (defArgs st) (defBody st) (defScope st) [] [] f fd ∧ Binds K fd ps []
section
variable {P : Program} {w : World} {K : PySem.W.Frag} {mg : Str → Option Value} {base : Heap}
theorem PromG.of {x : Str} {st : Stmt} {ps N : List Str} {sp : Sp} {k : Nat} (D : DefAt K mg x st) (S : FnScope N ps (defScope st)) (len : ∀ vs H Q E, sp vs H Q E → vs.length = ps.length)
    (hb : ∀ (kV doc pm : Value) (an : Option Addr) (cdv ct : Value) (us : List Value), us.length = ps.length → bindArgs (PySem.W.fnOf x x (defArgs st) (defBody st) (defScope st) .none kV doc pm an cdv ct) ⟨us, []⟩ = pure (ps.zip us))
    (hbody : ∀ (f : Addr) (cdv : Value) (A : Around) (outer : List Env) (s : Shared) (H : Hp) (vs : List V) (Q : VK) (E : XK), Room k (A.deeper (envOfC x (defScope st) s.heap.objs.size f cdv)) → (A.deeper (envOfC x (defScope st) s.heap.objs.size f cdv)).guards = some [] → sp vs H Q E →
      ∃ t, PSs (cxOf CX0 P w K mg base N x (defScope st) f cdv A outer s H E).nox (defBody st) t ∧ t { nx := fun _ H' => Q .non H', rt := Q } (start N vs) H) :
    PromG P w K mg base (k + 1) x st ps sp := by
  obtain ⟨f, fd, F, hm⟩ := D
  exact ⟨f, fd, fnG_of F S len (fun cdv A outer s H vs Q E hr hg hs => hbody f cdv A outer s H vs Q E hr hg hs), hm, F, F.bindsN hb⟩
theorem Prom.g {x : Str} {st : Stmt} {ps : List Str} {sp : Sp} {k : Nat} (G : Prom P w K mg base CX0 k x st ps sp) : PromG P w K mg base k x st ps sp := by
  obtain ⟨f, fd, F, r⟩ := G.ex
  exact ⟨f, fd, FnG.of F, r⟩
end
section
variable {X : Cx} {k : Nat} {x : Str} {st : Stmt} {ps : List Str} {sp : Sp} {e : Expr} {es : List Expr} {t : TA} {p pos : Pos}
/-- f(..) of such a def -/
theorem pe_callG (G : PromG X.prog X.w X.K X.mg X.base k x st ps sp) (gd : X.A.guards = some []) (hr : Room k X.A) (hg : Gl X x) (ha : PA X (e :: es) t)
    (hdb : (x == ("__debug__" : Str)) = false := by decide) (he : starEach (e :: es) X.env = (false, eval e X.env) :: starEach es X.env := by rfl) (hpl : (backTo pos (starEach es X.env)).any (·.1) = false := by rfl) :
    PE X (.Call (.Name x p) (e :: es) [] pos) (tCall sp [] E0 t) := by
  obtain ⟨f, fd, F, hm, D, hb⟩ := G.ex
  constructor
  intro pins s σ H Q I h
  refine wpAny_Call_Name_kw (ld_glob I hg hm (PySem.W.callWith_K (h₀ := X.base) I.ok.mod.kin D.kp (thn (ha.run pos pins s σ H _ I h) ?_) he hpl) hdb)
  rintro us s1 ⟨vs, H1, I1, rel, want⟩
  refine ⟨I1.kIn, wpAny_call (codeAny_mono (F.run X.A X.stack s1 H1 ⟨us, []⟩ (us ++ []) (vs ++ []) Q E0 hr gd I1.env0 (hb s1 us I1.kIn ?_) (rel.append .nil) want) ?_)⟩
  · rw [← (rel.append Paired.nil).length]
    exact F.len _ _ _ _ want
  · intro r s' hq
    cases r with
    | error z => exact False.elim hq
    | ok fl =>
      cases fl with
      | ret u => exact I1.after hq
      | next => exact False.elim hq
      | brk => exact False.elim hq
      | cont => exact False.elim hq
/-- repr of data at any depth -/
theorem cr_reprD (gd : X.A.guards = some []) (hu : X.A.units + 64 < cLine) : CallR X (.builtin "repr") (fun xs H Q => ∃ (a : Addr) (d : PyData), xs = [.ref a] ∧ Dp X.K H (.ref a) d ∧ d.showable = true ∧ d.hasDict = false ∧ d.depth ≤ 40 ∧ d.shown.length ≤ sizeLine ∧ Q (.str d.shown) H) := by
  intro pins s σ H xs us Q I r h
  obtain ⟨a, d, rfl, hd, h1, h2, h3, h4, q⟩ := h
  obtain ⟨u, rfl, ru⟩ := vals1 r
  obtain ⟨as, rd⟩ := Dp.reads I d _ u hd ru
  cases (show u = Value.ref a from ru)
  refine repr_of_reads' rd h1 (PyData.noDict_hsm h2) gd (by omega) (fun _ _ z => z) (fun h' tok tk kept => ?_) h4
  exact ⟨.str d.shown, H, I.kept (t' := tk) kept, ⟨_, rfl⟩, q⟩
end
/-! ### the law's call -/
section
variable {P : Program} {w : World} {K : PySem.W.Frag} {mg mb : Str → Option Value} {k : Nat} {fa a : Addr} {fd : FuncData} {x : Str} {sp : Sp} {st : Shared} {vs : List Value} {ns : List Int}
/-- the script as the law finds it -/
def scriptHp (K : PySem.W.Frag) (a : Addr) (vs : List Value) (ns : List Int) : Hp := fun b => if b = a ∧ K.lookup a = none then some (.frz { cls := .type "list", data := .seq vs.toArray } (.lst (ns.map V.int))) else none
theorem scriptHp_some {b : Addr} {u : HO} (h : scriptHp K a vs ns b = some u) : b = a ∧ K.lookup a = none ∧ u = .frz { cls := .type "list", data := .seq vs.toArray } (.lst (ns.map V.int)) := by
  unfold scriptHp at h
  by_cases c : b = a ∧ K.lookup a = none
  · rw [if_pos c] at h
    exact ⟨c.1, c.2, (Option.some.inj h).symm⟩
  · rw [if_neg c] at h
    cases h
theorem scriptHp_none {b : Addr} (h : b ≠ a) : scriptHp K a vs ns b = none := if_neg fun z => h z.1
theorem law_callG (KX : K.In st.heap) (gl : st.heap.Ns mainGlobals mg) (bl : st.heap.Ns builtinsNs mb) (bb : ∀ y : Str, y ≠ "__name__" → mb y = bootBuiltins y) (nl : st.heap.NoLimit) (gn : st.gens = #[])
    (ha : st.heap.get? a = some { cls := .type "list", data := .seq vs.toArray }) (hi : IntsAre vs ns) (hl : ns.length ≤ sizeLine) (room : Room k callerA)
    (F : ∀ base : Heap, K.In base → base.Ns mainGlobals mg → FnG P w K mg base k fa fd [x] sp) (bind1 : ∀ (s : Shared) (u : Value), BindsTo s fd ⟨[u], []⟩ [(x, u)])
    (want : ∀ H : Hp, SqL K H a (ns.map V.int) → sp [.ref a] H (fun v _ => v = .bl true) fun _ _ _ => False) :
    codeAny (model P w) callerA (.call (.ref fa) ⟨[.ref a], []⟩) (fun r s' => r = .ok (.ret (.bool true)) ∧ OldK st.heap s'.heap ∧ s'.os = st.os ∧ AllBare s'.gens) st := by
  have rel : Vals (ns.map V.int) vs := vals_ints hi
  have len : (ns.map V.int).length ≤ sizeLine := by rw [List.length_map]; exact hl
  generalize hH : scriptHp K a vs ns = H
  have sm : ∀ {b u}, H b = some u → b = a ∧ K.lookup a = none ∧ u = .frz { cls := .type "list", data := .seq vs.toArray } (.lst (ns.map V.int)) := fun {b u} e => by
    rw [← hH] at e
    exact scriptHp_some e
  have ok : HOk P w H st.heap := fun b u e => by
    obtain ⟨rfl, _, rfl⟩ := sm e
    exact ⟨ha, len, vs, _, rel, ha⟩
  have sq : SqL K H a (ns.map V.int) := by
    cases lk : K.lookup a with
    | none => exact Or.inl (Or.inr ⟨_, by rw [← hH]; exact if_pos ⟨rfl, lk⟩⟩)
    | some o =>
      have e := (KX a o lk).symm.trans ha
      cases e
      exact Or.inr ⟨_, vs.toArray, _, lk, rfl, rfl, rfl, by rw [List.size_toArray, ← rel.length]; exact len, by simpa using rel⟩
  have hid : ∀ {b o}, st.heap.get? b = some o → H b = none → (hidT st.heap H).get? b = some o := fun e n => hidT_get e n
  have free : ∀ {b : Addr} {m}, st.heap.Ns b m → H b = none := fun {b m} hn => by
    cases e : H b with
    | none => rfl
    | some u =>
      obtain ⟨rfl, _, _⟩ := sm e
      obtain ⟨o, es, ep, e1, e2, _⟩ := hn
      have z := ha.symm.trans e1
      cases z
      cases e2
  have ns1 : ∀ {b : Addr} {m}, st.heap.Ns b m → (hidT st.heap H).Ns b m := fun {b m} hn => by
    have fr := free hn
    obtain ⟨o, es, ep, e1, e2⟩ := hn
    exact ⟨o, es, ep, hid e1 fr, e2⟩
  have inB : K.In (hidT st.heap H) := fun b o e => hid (KX b o e) (by
    cases z : H b with
    | none => rfl
    | some u =>
      obtain ⟨rfl, z2, _⟩ := sm z
      rw [z2] at e
      cases e)
  have md : Mod K mg (hidT st.heap H) := ⟨inB, ns1 gl, ⟨mb, ns1 bl, bb⟩, let ⟨mc, c1, c2⟩ := nl; ⟨mc, ns1 c1, c2⟩⟩
  have env : Env0 P w K mg (hidT st.heap H) callerA [] st H := ⟨rfl, md, fun _ _ e => of_hidT e, Nat.le_of_eq (hidT_size _ _), trivial, fun b z => absurd (show b ∈ ([] : List Addr) from z) (by simp), ok, .of_eq gn⟩
  refine codeAny_mono ((F _ inB (ns1 gl)).run callerA [] st H ⟨[.ref a], []⟩ [.ref a] [.ref a] _ _ room rfl env (bind1 st (.ref a)) (.cons rfl .nil) (want H sq)) fun r s' h => ?_
  cases r with
  | error z => exact False.elim h
  | ok fl =>
    cases fl with
    | next => exact False.elim h
    | brk => exact False.elim h
    | cont => exact False.elim h
    | ret u =>
      obtain ⟨v, H', os, bare, un, ok', ru, qv⟩ := h
      cases (show v = .bl true from qv)
      cases (show u = Value.bool true from ru)
      refine ⟨rfl, OldK.of_keep ?_, os, bare⟩
      intro b o e
      cases z : H b with
      | none => exact un.keep b o e z (by intro y; exact absurd (show b ∈ ([] : List Addr) from y) (by simp)) (by simp)
      | some t =>
        obtain ⟨rfl, _, rfl⟩ := sm z
        have e2 := (ok' _ _ (un.frzs _ _ _ z)).1
        have e3 := ha.symm.trans e
        cases e3
        exact e2
end
/-- a law whose def is a PromG -/
theorem walk_ofG {l : PySem.W.OpenLaw} {n k : Nat} {q : Program} {loose : List Str} {XP : (Str → Option Value) → Heap → Prop} {YP : World → Heap → Prop} {d : DefRec} {x : Str}
    (hn : l.most = some n) (hn2 : n ≤ sizeLine) (hdf : d.params.defaults = []) (room : Room k callerA)
    (F : ∀ (w : World) (mg : Str → Option Value) (fa : Addr) (h : Heap), YP w h → h.Ns mainGlobals mg → mg d.name = some (.ref fa) →
      ∃ (K : PySem.W.Frag) (fd : FuncData) (sp : Sp), K.In h ∧ (∀ (s : Shared) (u : Value), BindsTo s fd ⟨[u], []⟩ [(x, u)]) ∧
        (∀ (H : Hp) (a : Addr) (ns : List Int), ns.length ≤ n → (∀ z ∈ ns, Builtin.Int.intBits z ≤ 1048576) → SqL K H a (ns.map V.int) → sp [.ref a] H (fun v _ => v = .bl true) fun _ _ _ => False) ∧
        ∀ base : Heap, K.In base → base.Ns mainGlobals mg → FnG l.prog w K mg base k fa fd [x] sp) :
    PySem.W.WalkO q loose XP YP l.row.toRowW d [] (fun f vs => PySem.call f vs) := by
  refine Att.attach_callB hn hdf fun w sA sB mg mb fa o pm cd doc a vs ns G Y ho hd hcd hmg hobj hints hlen hbits hg => ?_
  obtain ⟨K, fd, sp, KX, b1, want, hF⟩ := F w mg fa _ Y G.T.g hmg
  exact law_callG KX G.T.g G.T.b G.T.builtins G.T.nolimit hg hobj hints (Nat.le_trans hlen hn2) room hF b1 (fun H hS => want H a ns hlen hbits hS)
end Sz
namespace Sz
/-! ### powers -/
theorem pow_pos {b : Int} (hb : 1 ≤ b) : ∀ j : Nat, 1 ≤ b ^ j
  | 0 => by rw [Int.pow_zero]; exact Int.le_refl 1
  | j + 1 => by
    rw [Int.pow_succ]
    have ih := pow_pos hb j
    have h := Int.mul_le_mul ih hb (by omega) (by omega)
    omega
theorem pow_one (b : Int) : b ^ (0 + 1) = b := by rw [Int.pow_succ, Int.pow_zero, Int.one_mul]
theorem pow_step {b : Int} (hb : 1 ≤ b) (j : Nat) : b ^ j ≤ b ^ (j + 1) := by
  rw [Int.pow_succ]
  have h := Int.mul_le_mul_of_nonneg_left hb (show 0 ≤ b ^ j by have := pow_pos hb j; omega)
  omega
theorem pow_mono {b : Int} (hb : 1 ≤ b) {i : Nat} : ∀ {j : Nat}, i ≤ j → b ^ i ≤ b ^ j
  | 0, h => by
    have e : i = 0 := by omega
    rw [e]
    exact Int.le_refl _
  | j + 1, h => by
    by_cases e : i = j + 1
    · rw [e]
      exact Int.le_refl _
    · exact Int.le_trans (pow_mono hb (j := j) (by omega)) (pow_step hb j)
theorem pow_lt {b : Int} (hb : 2 ≤ b) (j : Nat) : b ^ j < b ^ (j + 1) := by
  rw [Int.pow_succ]
  have h1 := pow_pos (show 1 ≤ b by omega) j
  have h := Int.mul_le_mul_of_nonneg_left hb (show 0 ≤ b ^ j by omega)
  omega
/-- an integer is below the power with its own number -/
theorem lt_pow {b : Int} (hb : 2 ≤ b) : ∀ j : Nat, (j : Int) < b ^ j
  | 0 => by rw [Int.pow_zero]; decide
  | j + 1 => by
    have h1 := lt_pow hb j
    have h2 := pow_lt hb j
    omega
/-! ### figures -/
/-- k is the number of figures of n in the base b -/
def IsF (b n k : Int) : Prop := ∃ j : Nat, k = (j : Int) + 1 ∧ n < b ^ (j + 1) ∧ (j = 0 ∨ b ^ j ≤ n)
theorem isF_le {b n m k l : Int} (hb : 2 ≤ b) (h : n ≤ m) (hk : IsF b n k) (hl : IsF b m l) : k ≤ l := by
  obtain ⟨i, rfl, h1, h2⟩ := hk
  obtain ⟨j, rfl, h3, h4⟩ := hl
  by_cases c : i ≤ j
  · omega
  · rcases h2 with h2 | h2
    · omega
    · have h5 := pow_mono (show 1 ≤ b by omega) (show j + 1 ≤ i by omega)
      omega
theorem isF_eq {b n k l : Int} (hb : 2 ≤ b) (hk : IsF b n k) (hl : IsF b n l) : k = l :=
  Int.le_antisymm (isF_le hb (Int.le_refl n) hk hl) (isF_le hb (Int.le_refl n) hl hk)
theorem isF_pos {b n k : Int} (h : IsF b n k) : 1 ≤ k := by
  obtain ⟨j, rfl, _⟩ := h
  omega
/-- there is such a number -/
theorem isF_ex {b : Int} (hb : 2 ≤ b) (n : Int) : ∃ k, IsF b n k := by
  have key : ∀ m : Nat, ∀ n : Int, n < b ^ (m + 1) → ∃ k, IsF b n k := by
    intro m
    induction m with
    | zero => exact fun n h => ⟨1, 0, rfl, h, .inl rfl⟩
    | succ m ih =>
      intro n h
      by_cases c : n < b ^ (m + 1)
      · exact ih n c
      · exact ⟨(m + 1 : Nat) + 1, m + 1, rfl, h, .inr (by omega)⟩
  refine key n.toNat n ?_
  have h1 := lt_pow hb (n.toNat + 1)
  omega
/-- a bound for the figures -/
theorem isF_bound {b n k : Int} (hb : 2 ≤ b) (m : Nat) (hn : n < 2 ^ m) (h : IsF b n k) : k ≤ (m : Int) + 1 := by
  obtain ⟨j, rfl, h1, h2⟩ := h
  rcases h2 with h2 | h2
  · omega
  · by_cases c : j ≤ m
    · omega
    · exfalso
      have h3 : (2 : Int) ^ j ≤ b ^ j := by
        clear h1 h2 c
        induction j with
        | zero => rw [Int.pow_zero, Int.pow_zero]; exact Int.le_refl 1
        | succ j ih =>
          rw [Int.pow_succ, Int.pow_succ]
          exact Int.mul_le_mul ih hb (by decide) (by have := pow_pos (show 1 ≤ b by omega) j; omega)
      have h4 := pow_mono (show (1 : Int) ≤ 2 by decide) (show m ≤ j by omega)
      omega
end Sz
namespace Sz
/-! ### totals that count their own figures -/
theorem isF_upper {b x g : Int} (hb : 2 ≤ b) {m : Nat} (h : x < b ^ (m + 1)) (hg : IsF b x g) : g ≤ (m : Int) + 1 := by
  obtain ⟨i, rfl, h1, h2⟩ := hg
  by_cases c : i ≤ m
  · omega
  · rcases h2 with h2 | h2
    · omega
    · have := pow_mono (show 1 ≤ b by omega) (show m + 1 ≤ i by omega)
      omega
/-- adding its figures to a number makes one figure more at most -/
theorem fig_grow {b n f g : Int} (hb : 2 ≤ b) (hn : 0 ≤ n) (hf : IsF b n f) (hg : IsF b (n + f) g) : g = f ∨ g = f + 1 := by
  have h1 := isF_le hb (show n ≤ n + f by have := isF_pos hf; omega) hf hg
  obtain ⟨j, rfl, h2, h3⟩ := hf
  have h4 := lt_pow hb (j + 1)
  have h5 : b ^ (j + 1 + 1) = b ^ (j + 1) * b := Int.pow_succ b (j + 1)
  have h6 := Int.mul_le_mul_of_nonneg_left hb (show 0 ≤ b ^ (j + 1) by omega)
  have h7 := isF_upper (m := j + 1) hb (show n + ((j : Int) + 1) < b ^ (j + 1 + 1) by omega) hg
  omega
/-- and then this is the number of figures -/
theorem fig_next {b n f : Int} (hb : 2 ≤ b) (hn : 0 ≤ n) (hf : IsF b n f) (hg : IsF b (n + f) (f + 1)) : IsF b (n + f + 1) (f + 1) := by
  obtain ⟨j, rfl, h2, h3⟩ := hf
  obtain ⟨i, e, h4, h5⟩ := hg
  have e2 : i = j + 1 := by omega
  subst e2
  have h6 := lt_pow hb (j + 1)
  have h7 : b ^ (j + 1 + 1) = b ^ (j + 1) * b := Int.pow_succ b (j + 1)
  have h8 := Int.mul_le_mul_of_nonneg_left hb (show 0 ≤ b ^ (j + 1) by omega)
  refine ⟨j + 1, by omega, by omega, Or.inr ?_⟩
  rcases h5 with h5 | h5
  · omega
  · omega
/-- s is a total of N -/
def Tot (b N s : Int) : Prop := IsF b s (s - N)
structure IsTot (b N s : Int) : Prop where
  tot : Tot b N s
  least : ∀ t, Tot b N t → s ≤ t
theorem isTot_pos {b N s : Int} (h : Tot b N s) : N + 1 ≤ s := by
  have := isF_pos h
  omega
theorem isTot_first {b n f : Int} (hb : 2 ≤ b) (hf : IsF b n f) (hg : IsF b (n + f) f) : IsTot b n (n + f) := by
  refine ⟨?_, fun t ht => ?_⟩
  · have e : n + f - n = f := by omega
    show IsF b (n + f) (n + f - n)
    rw [e]
    exact hg
  · have h1 := isTot_pos ht
    have h2 := isF_le hb (show n ≤ t by omega) hf ht
    omega
theorem isTot_second {b n f : Int} (hb : 2 ≤ b) (hn : 0 ≤ n) (hf : IsF b n f) (hg : IsF b (n + f) (f + 1)) : IsTot b n (n + f + 1) := by
  refine ⟨?_, fun t ht => ?_⟩
  · have e : n + f + 1 - n = f + 1 := by omega
    show IsF b (n + f + 1) (n + f + 1 - n)
    rw [e]
    exact fig_next hb hn hf hg
  · have h1 := isTot_pos ht
    have h2 := isF_le hb (show n ≤ t by omega) hf ht
    by_cases c : t = n + f
    · subst c
      have ht2 : IsF b (n + f) (n + f - n) := ht
      have e : n + f - n = f := by omega
      rw [e] at ht2
      have := isF_eq hb ht2 hg
      omega
    · omega
theorem isTot_eq {b N s t : Int} (h : IsTot b N s) (h2 : IsTot b N t) : s = t := Int.le_antisymm (h.least t h2.tot) (h2.least s h.tot)
/-- two totals lie beside one another -/
theorem tot_near {b N s t : Int} (hb : 2 ≤ b) (hN : 0 ≤ N) (h : Tot b N s) (h2 : Tot b N t) (hst : s ≤ t) : t ≤ s + 1 := by
  obtain ⟨i, e1, h3, h4⟩ := h
  obtain ⟨j, e2, h5, h6⟩ := h2
  by_cases c : t ≤ s + 1
  · exact c
  · exfalso
    have hj : b ^ j ≤ t := by
      rcases h6 with h6 | h6
      · omega
      · exact h6
    obtain ⟨m, hm⟩ : ∃ m : Nat, j = i + 1 + (m + 1) := ⟨j - i - 2, by omega⟩
    have e3 : b ^ j = b ^ (i + 1) * b ^ (m + 1) := by rw [hm, Int.pow_add]
    have p1 := pow_pos (show 1 ≤ b by omega) (i + 1)
    have p0 : 2 ≤ b ^ (i + 1) := by
      have := pow_mono (show 1 ≤ b by omega) (show 0 + 1 ≤ i + 1 by omega)
      rw [pow_one] at this
      omega
    have l1 := lt_pow hb (m + 1)
    have l2 := Int.mul_le_mul_of_nonneg_left (show ((m + 1 : Nat) : Int) + 1 ≤ b ^ (m + 1) by omega) (show 0 ≤ b ^ (i + 1) by omega)
    have l3 : b ^ (i + 1) * (((m + 1 : Nat) : Int) + 1) = b ^ (i + 1) * ((m + 1 : Nat) : Int) + b ^ (i + 1) := by rw [Int.mul_add, Int.mul_one]
    have l4 := Int.mul_le_mul_of_nonneg_right p0 (show 0 ≤ ((m + 1 : Nat) : Int) by omega)
    omega
/-- whether the next integer is a total, too -/
theorem tot_two {b N s g h : Int} (hb : 2 ≤ b) (ht : Tot b N s) (hg : IsF b s g) (hh : IsF b (s + 1) h) : (h > g ↔ Tot b N (s + 1)) := by
  have e1 : g = s - N := isF_eq hb hg ht
  constructor
  · intro c
    have h1 : h = g + 1 := by
      obtain ⟨j, rfl, h2, h3⟩ := hg
      have h4 := isF_upper (m := j + 1) hb (show s + 1 < b ^ (j + 1 + 1) by have := pow_lt hb (j + 1); omega) hh
      omega
    show IsF b (s + 1) (s + 1 - N)
    have e2 : s + 1 - N = h := by omega
    rw [e2]
    exact hh
  · intro c
    have e2 : h = s + 1 - N := isF_eq hb hh c
    omega
theorem isTot_ex {b n : Int} (hb : 2 ≤ b) (hn : 0 ≤ n) : ∃ s, IsTot b n s := by
  obtain ⟨f, hf⟩ := isF_ex hb n
  obtain ⟨g, hg⟩ := isF_ex hb (n + f)
  rcases fig_grow hb hn hf hg with e | e
  · exact ⟨_, isTot_first hb hf (by rw [← e]; rw [e] at hg ⊢; exact hg)⟩
  · exact ⟨_, isTot_second hb hn hf (by rw [← e]; exact hg)⟩
theorem pow_add_le {b : Int} (hb : 2 ≤ b) (j d : Nat) : b ^ j + d ≤ b ^ (j + d) := by
  induction d with
  | zero => simp
  | succ d ih =>
    have := pow_lt hb (j + d)
    have e : j + (d + 1) = j + d + 1 := by omega
    rw [e]
    omega
theorem two_mul_le {b : Int} (hb : 2 ≤ b) : ∀ j : Nat, 2 * (j : Int) ≤ b ^ j + 1
  | 0 => by simp
  | 1 => by rw [show (1 : Nat) = 0 + 1 from rfl, pow_one]; omega
  | j + 2 => by
    have h1 := two_mul_le hb (j + 1)
    have h2 : b ^ (j + 2) = b ^ (j + 1) * b := Int.pow_succ b (j + 1)
    have h3 := pow_mono (show 1 ≤ b by omega) (show 0 + 1 ≤ j + 1 by omega)
    rw [pow_one] at h3
    have h4 := Int.mul_le_mul_of_nonneg_left hb (show 0 ≤ b ^ (j + 1) by omega)
    omega
/-- the totals found ahead of the number k of figures -/
def totA (N s : Int) (two : Bool) (k : Int) : List Int := if k ≤ s - N then [] else if k = s - N + 1 ∨ two = false then [s] else [s, s + 1]
theorem totA_start {b N s : Int} {two : Bool} (h : IsTot b N s) : totA N s two 1 = [] := if_pos (by have := isTot_pos h.tot; omega)
/-- the one with k figures is a total -/
theorem totA_yes {b N s k : Int} {two : Bool} (hb : 2 ≤ b) (hN : 0 ≤ N) (h : IsTot b N s) (h2 : two = true ↔ Tot b N (s + 1)) (hk : Tot b N (N + k)) : totA N s two (k + 1) = totA N s two k ++ [N + k] := by
  have a := h.least _ hk
  have c := tot_near hb hN h.tot hk a
  by_cases e : N + k = s
  · have e1 : totA N s two k = [] := if_pos (by omega)
    have e2 : totA N s two (k + 1) = [s] := by
      unfold totA
      rw [if_neg (by omega), if_pos (Or.inl (by omega))]
    rw [e1, e2, e]
    rfl
  · have e0 : N + k = s + 1 := by omega
    have ht : two = true := h2.mpr (by rw [← e0]; exact hk)
    have e1 : totA N s two k = [s] := by
      unfold totA
      rw [if_neg (by omega), if_pos (Or.inl (by omega))]
    have e2 : totA N s two (k + 1) = [s, s + 1] := by
      unfold totA
      rw [if_neg (by omega), if_neg (by rw [ht]; simp; omega)]
    rw [e1, e2, e0]
    rfl
theorem totA_no {b N s k : Int} {two : Bool} (h : IsTot b N s) (h2 : two = true ↔ Tot b N (s + 1)) (hk : ¬ Tot b N (N + k)) : totA N s two (k + 1) = totA N s two k := by
  have e : N + k ≠ s := fun z => hk (by rw [z]; exact h.tot)
  unfold totA
  by_cases c : k ≤ s - N
  · rw [if_pos c, if_pos (by omega)]
  · rw [if_neg c, if_neg (by omega)]
    by_cases d : k = s - N + 1
    · have d0 : N + k = s + 1 := by omega
      have ht : two = false := by
        cases q : two with
        | false => rfl
        | true => exact absurd (by rw [d0]; exact h2.mp q) hk
      rw [if_pos (Or.inr ht), if_pos (Or.inr ht)]
    · by_cases ht : two = false
      · rw [if_pos (Or.inr ht), if_pos (Or.inr ht)]
      · rw [if_neg (fun z => z.elim (by omega) ht), if_neg (fun z => z.elim (by omega) ht)]
theorem totA_end {b N s : Int} {j : Nat} {two : Bool} (hb : 2 ≤ b) (hN : 0 ≤ N) (h : IsTot b N s) (h2 : two = true ↔ Tot b N (s + 1)) (hj : ¬ b ^ j ≤ N + ((j : Int) + 1)) : totA N s two ((j : Int) + 1) = if two then [s, s + 1] else [s] := by
  have far : ∀ t, Tot b N t → t - N < (j : Int) + 1 := fun t ht => by
    obtain ⟨i, e, h3, h4⟩ := ht
    by_cases c : i < j
    · omega
    · exfalso
      obtain ⟨d, hd⟩ : ∃ d, i = j + d := ⟨i - j, by omega⟩
      have h5 := pow_add_le hb j d
      rw [← hd] at h5
      rcases h4 with h4 | h4
      · have e0 : j = 0 := by omega
        rw [e0] at hj h5
        have : N + 1 ≤ t := by omega
        have e1 : d = 0 := by omega
        rw [e1] at h5
        simp at hj h5
        omega
      · omega
  have f1 := far s h.tot
  unfold totA
  rw [if_neg (by omega)]
  cases ht : two with
  | false => simp
  | true =>
    have f2 := far _ (h2.mp ht)
    rw [if_neg (by simp; omega)]
    rfl
/-- figures grow no faster than numbers -/
theorem fig_lip {b x y f g : Int} (hb : 2 ≤ b) (h : x ≤ y) (hf : IsF b x f) (hg : IsF b y g) : g ≤ f + (y - x) := by
  obtain ⟨j, rfl, h1, h2⟩ := hf
  obtain ⟨d, hd⟩ : ∃ d : Nat, y = x + d := ⟨(y - x).toNat, by omega⟩
  have h3 := pow_add_le hb (j + 1) d
  have h4 := isF_upper (m := j + d) hb (show y < b ^ (j + d + 1) by rw [show j + d + 1 = j + 1 + d by omega]; omega) hg
  omega
/-- the least total of the next one stands right behind the last total -/
theorem tot_step {b N s : Int} {two : Bool} (hb : 2 ≤ b) (hN : 0 ≤ N) (h : IsTot b N s) (h2 : two = true ↔ Tot b N (s + 1)) : IsTot b (N + 1) (s + (if two then [s, s + 1] else [s]).length) := by
  have last : ∃ e : Int, s + (if two then [s, s + 1] else [s]).length = e + 1 ∧ Tot b N e ∧ ¬ Tot b N (e + 1) := by
    cases q : two with
    | false => exact ⟨s, by simp, h.tot, fun z => by rw [q] at h2; have := h2.mpr z; cases this⟩
    | true =>
      refine ⟨s + 1, by simp; omega, h2.mp q, fun z => ?_⟩
      have := tot_near hb hN h.tot z (by omega)
      omega
  obtain ⟨e, e0, e1, e2⟩ := last
  rw [e0]
  obtain ⟨f, hf⟩ := isF_ex hb (e + 1)
  have f1 := isF_le hb (show e ≤ e + 1 by omega) e1 hf
  have f2 := fig_lip hb (show e ≤ e + 1 by omega) e1 hf
  have f3 : f ≠ e + 1 - N := fun z => e2 (by show IsF b (e + 1) (e + 1 - N); rw [← z]; exact hf)
  refine ⟨?_, fun t ht => ?_⟩
  · show IsF b (e + 1) (e + 1 - (N + 1))
    have : f = e + 1 - (N + 1) := by omega
    rw [← this]
    exact hf
  · by_cases c : e + 1 ≤ t
    · exact c
    · have := fig_lip hb (show t ≤ e by omega) ht e1
      omega
/-- the integer ahead of the least total is one of the length ahead -/
theorem tot_ahead {b N s f : Int} (hb : 2 ≤ b) (h : IsTot b N s) (hf : IsF b (s - 1) f) : s - 1 - f = N - 1 := by
  have h1 := fig_lip hb (show s - 1 ≤ s by omega) hf h.tot
  have h2 := isF_le hb (show s - 1 ≤ s by omega) hf h.tot
  have h3 : f ≠ s - 1 - N := fun z => by
    have := h.least (s - 1) (by show IsF b (s - 1) (s - 1 - N); rw [← z]; exact hf)
    omega
  omega
/-- so many integers from one on -/
def irun (s : Int) (n : Nat) : List Int := (List.range n).map fun (i : Nat) => s + (i : Int)
theorem irun_len (s : Int) (n : Nat) : (irun s n).length = n := by
  unfold irun
  simp
theorem irun_app (s : Int) (n : Nat) (two : Bool) : irun s n ++ (if two then [s + n, s + n + 1] else [s + n]) = irun s (n + (if two then [s, s + 1] else [s]).length) := by
  unfold irun
  cases two with
  | false => simp [List.range_succ]
  | true =>
    simp [List.range_succ]
    omega
/-- a total by its power -/
theorem tot_iff {b N : Int} {j : Nat} (hN : 0 ≤ N) (hj : b ^ j ≤ N + ((j : Int) + 1)) : Tot b N (N + ((j : Int) + 1)) ↔ N + ((j : Int) + 1) < b ^ (j + 1) := by
  have e : N + ((j : Int) + 1) - N = (j : Int) + 1 := by omega
  constructor
  · rintro ⟨i, e1, h1, _⟩
    have : i = j := by omega
    rw [this] at h1
    exact h1
  · intro h
    exact ⟨j, e, h, Or.inr hj⟩
end Sz
namespace Sz
/-! ### what wraps make of lengths -/
open Classical in
/-- how many figures -/
noncomputable def figF (b n : Int) : Int := if h : 2 ≤ b then choose (isF_ex h n) else 0
theorem figF_is {b n : Int} (h : 2 ≤ b) : IsF b n (figF b n) := by
  unfold figF
  rw [dif_pos h]
  exact Classical.choose_spec (isF_ex h n)
theorem figF_eq {b n k : Int} (hb : 2 ≤ b) (h : IsF b n k) : k = figF b n := isF_eq hb h (figF_is hb)
theorem figF_pos {b n : Int} (hb : 2 ≤ b) : 1 ≤ figF b n := isF_pos (figF_is hb)
theorem figF_mono {b n m : Int} (hb : 2 ≤ b) (h : n ≤ m) : figF b n ≤ figF b m := isF_le hb h (figF_is hb) (figF_is hb)
theorem figF_lip {b n m : Int} (hb : 2 ≤ b) (h : n ≤ m) : figF b m ≤ figF b n + (m - n) := fig_lip hb h (figF_is hb) (figF_is hb)
open Classical in
/-- the least total -/
noncomputable def totF (b n : Int) : Int := if h : 2 ≤ b ∧ 0 ≤ n then choose (isTot_ex h.1 h.2) else 0
theorem totF_is {b n : Int} (h : 2 ≤ b) (h2 : 0 ≤ n) : IsTot b n (totF b n) := by
  unfold totF
  rw [dif_pos ⟨h, h2⟩]
  exact Classical.choose_spec (isTot_ex h h2)
theorem totF_eq {b n k : Int} (hb : 2 ≤ b) (hn : 0 ≤ n) (h : IsTot b n k) : k = totF b n := isTot_eq h (totF_is hb hn)
/-- how many parts of a size a length begins -/
def beg (n m : Int) : Int := (n + m - 1) / m
inductive Wr where
  | plus (c : Int)
  | told (c : Int)
  | whole (c : Int)
  | pieces (m c : Int)
  | cut (m c : Int)
  | coded (m c : Int)
  | filled (m : Int)
def Wr.kind : Wr → PySem.Str
  | .plus _ => "plus"
  | .told _ => "told"
  | .whole _ => "whole"
  | .pieces _ _ => "pieces"
  | .cut _ _ => "cut"
  | .coded _ _ => "coded"
  | .filled _ => "filled"
def Wr.nums : Wr → List Int
  | .plus c => [c]
  | .told c => [c]
  | .whole c => [c]
  | .pieces m c => [m, c]
  | .cut m c => [m, c]
  | .coded m c => [m, c]
  | .filled m => [m]
def Wr.rng : Wr → List (Int × Int)
  | .plus _ => [(0, 1000)]
  | .told _ => [(0, 1000)]
  | .whole _ => [(0, 1000)]
  | .pieces _ _ => [(1, 60), (0, 60)]
  | .cut _ _ => [(1, 60), (0, 60)]
  | .coded _ _ => [(1, 60), (1, 120)]
  | .filled _ => [(1, 60)]
def Wr.ok : Wr → Prop
  | .plus c => 0 ≤ c ∧ c ≤ 1000
  | .told c => 0 ≤ c ∧ c ≤ 1000
  | .whole c => 0 ≤ c ∧ c ≤ 1000
  | .pieces m c => 1 ≤ m ∧ m ≤ 60 ∧ 0 ≤ c ∧ c ≤ 60
  | .cut m c => 1 ≤ m ∧ m ≤ 60 ∧ 0 ≤ c ∧ c ≤ 60
  | .coded m c => 1 ≤ m ∧ m ≤ 60 ∧ m ≤ c ∧ c ≤ 120
  | .filled m => 1 ≤ m ∧ m ≤ 60
/-- the size that a wrap makes of a length -/
noncomputable def Wr.gr (b : Int) : Wr → Int → Int
  | .plus c, n => n + c
  | .told c, n => n + c + figF b n
  | .whole c, n => totF b (n + c)
  | .pieces m c, n => n / m * (m + c + figF b m) + (if 0 < n % m then n % m + c + figF b (n % m) else 0) + c + 1
  | .cut m c, n => n + beg n m * c
  | .coded m c, n => beg n m * c
  | .filled m, n => beg n m * m
theorem nums_len {w : Wr} : w.nums.length = w.rng.length := by cases w <;> rfl
theorem nums_small {w : Wr} (h : w.ok) : ∀ x ∈ w.nums, 0 ≤ x ∧ x ≤ 1000 := by
  cases w <;> simp only [Wr.ok] at h <;> simp [Wr.nums] <;> omega
theorem beg_le {n m : Int} (hn : 0 ≤ n) (hm : 1 ≤ m) : beg n m ≤ n ∧ 0 ≤ beg n m := by
  unfold beg
  constructor
  · refine Int.le_of_lt_add_one (Int.ediv_lt_of_lt_mul (by omega) ?_)
    have := Int.mul_le_mul_of_nonneg_left hm (show 0 ≤ n by omega)
    have e : (n + 1) * m = n * m + m := by rw [Int.add_mul, Int.one_mul]
    omega
  · exact Int.ediv_nonneg (by omega) (by omega)
theorem fig_small {b m : Int} (hb : 2 ≤ b) (hm : m ≤ 60) : figF b m ≤ 6 := by
  have h : m < b ^ (5 + 1) := by
    have h1 := pow_pos (show 1 ≤ b by omega) 5
    have h2 : (64 : Int) ≤ b ^ 6 := by
      have : ∀ j : Nat, (2 : Int) ^ j ≤ b ^ j := fun j => by
        induction j with
        | zero => simp
        | succ j ih =>
          rw [Int.pow_succ, Int.pow_succ]
          exact Int.mul_le_mul ih hb (by decide) (by have := pow_pos (show 1 ≤ b by omega) j; omega)
      have := this 6
      omega
    show m < b ^ 6
    omega
  have := isF_upper (m := 5) hb h (figF_is hb)
  omega
theorem figF_le {b n : Int} (hb : 2 ≤ b) (hn : 0 ≤ n) : figF b n ≤ n + 1 := by
  have h1 := figF_lip (b := b) hb hn
  have h2 : figF b 0 ≤ 1 := by
    have := isF_upper (m := 0) hb (show (0 : Int) < b ^ (0 + 1) by rw [pow_one]; omega) (figF_is hb)
    omega
  omega
/-- a size is no less than 0, and not too great -/
theorem gr_le {b : Int} {w : Wr} (hb : 2 ≤ b) (h : w.ok) {n : Int} (hn : 0 ≤ n) : 0 ≤ w.gr b n ∧ w.gr b n ≤ 128 * n + 4096 := by
  cases w with
  | plus c =>
    simp only [Wr.ok] at h
    simp only [Wr.gr]
    omega
  | told c =>
    simp only [Wr.ok] at h
    simp only [Wr.gr]
    have h1 := figF_le (b := b) hb hn
    have h2 := figF_pos (b := b) (n := n) hb
    omega
  | whole c =>
    simp only [Wr.ok] at h
    simp only [Wr.gr]
    have t := totF_is hb (show 0 ≤ n + c by omega)
    have h1 := isTot_pos t.tot
    have f := figF_is (b := b) (n := n + c) hb
    have g := figF_is (b := b) (n := n + c + figF b (n + c)) hb
    have fl := figF_le (b := b) (n := n + c) hb (by omega)
    rcases fig_grow hb (show 0 ≤ n + c by omega) f g with e | e
    · have := t.least _ (isTot_first hb f (by rw [e] at g; exact g)).tot
      omega
    · have := t.least _ (isTot_second hb (show 0 ≤ n + c by omega) f (by rw [← e]; exact g)).tot
      omega
  | pieces m c =>
    simp only [Wr.ok] at h
    simp only [Wr.gr]
    have f1 := fig_small (b := b) (m := m) hb h.2.1
    have f2 := figF_pos (b := b) (n := m) hb
    have q0 := Int.ediv_nonneg hn (show 0 ≤ m by omega)
    have q1 : n / m ≤ n := Int.ediv_le_self _ hn
    have r0 := Int.emod_nonneg n (show m ≠ 0 by omega)
    have r1 := Int.emod_lt_of_pos n (show 0 < m by omega)
    have f3 := fig_small (b := b) (m := n % m) hb (by omega)
    have f4 := figF_pos (b := b) (n := n % m) hb
    have p0 := Int.mul_nonneg q0 (show 0 ≤ m + c + figF b m by omega)
    have p1 := Int.mul_le_mul q1 (show m + c + figF b m ≤ 126 by omega) (by omega) hn
    split <;> omega
  | cut m c =>
    simp only [Wr.ok] at h
    simp only [Wr.gr]
    have q := beg_le hn h.1
    have p0 := Int.mul_nonneg q.2 (show 0 ≤ c by omega)
    have p1 := Int.mul_le_mul q.1 (show c ≤ 60 by omega) (by omega) hn
    omega
  | coded m c =>
    simp only [Wr.ok] at h
    simp only [Wr.gr]
    have q := beg_le hn h.1
    have p0 := Int.mul_nonneg q.2 (show 0 ≤ c by omega)
    have p1 := Int.mul_le_mul q.1 (show c ≤ 120 by omega) (by omega) hn
    omega
  | filled m =>
    simp only [Wr.ok] at h
    simp only [Wr.gr]
    have q := beg_le hn h.1
    have p0 := Int.mul_nonneg q.2 (show 0 ≤ m by omega)
    have p1 := Int.mul_le_mul q.1 (show m ≤ 60 by omega) (by omega) hn
    omega
end Sz
/-! a hook that looks at whatever one wants besides, and the table of ranges -/
namespace Sz
open PySem PySem.Spec PyProof.Rows L2
abbrev AlX : Type := Bool × He.AlT
/-- what an object names, its class's line left out: what the module names is there already -/
def refsX (o : Obj) : List Addr := match o.data with
  | .seq its _ => its.toList.flatMap He.refV
  | .dict es _ => es.toList.flatMap fun e => He.refV e.val
  | .func fd => He.refV fd.code ++ (He.refV fd.defaults ++ (He.refV fd.kwdefaults ++ fd.closure.map (·.2)))
  | .cls cd => [cd.ns]
  | .fields vs => vs.toList.flatMap He.refV
  | .cell (some v) => He.refV v
  | _ => []
def layerX (g : Addr → Option Obj) (as : List Addr) : List Addr := as.flatMap fun a => match g a with
  | some o => refsX o
  | none => []
/-- layer by layer, nothing looked at twice -/
def layersX (g : Addr → Option Obj) : Nat → List Addr → List Addr
  | 0, l => l
  | n + 1, l => l ++ layersX g n (layerX g l)
def asX (g : Addr → Option Obj) (n : Nat) : List Addr := layersX g n [mainGlobals]
def obsX (fb : PySem.W.Frag → Bool) (fa : List He.Fa) (fn : List He.DefD) (ts : List He.Tab) (K : PySem.W.Frag) : AlX := (fb K, He.obsT fa fn ts K)
def valX (fn : List He.DefD) (ts : List He.Tab) (w : World) : AlX := (true, He.valT fn ts w)
def obsXG (n : Nat) (fb : PySem.W.Frag → Bool) (fa : List He.Fa) (fn : List He.DefD) (ts : List He.Tab) (g : Addr → Option Obj) : AlX := obsX fb fa fn ts (He.frG g (asX g n))
def SaysX (fb : PySem.W.Frag → Bool) (fa : List He.Fa) (fn : List He.DefD) (ts : List He.Tab) (w : World) (K : PySem.W.Frag) : Prop := obsX fb fa fn ts K = valX fn ts w
def hookX (n : Nat) (fb : PySem.W.Frag → Bool) (fa : List He.Fa) (fn : List He.DefD) (ts : List He.Tab) : PySem.W.Hook where
  α := AlX
  obs := fun s => obsXG n fb fa fn ts s.heap.get?
  val := fun w => valX fn ts w
  says := fun w h => ∃ K : PySem.W.Frag, K.In h ∧ SaysX fb fa fn ts w K
  of := fun _ _ e => ⟨_, He.frG_in, e⟩
  keeps := fun _ _ _ ⟨K, hK, c⟩ k => ⟨K, PySem.W.Frag.In.keeps hK k, c⟩
theorem obsXG_eq {n : Nat} {fb : PySem.W.Frag → Bool} {fa : List He.Fa} {fn : List He.DefD} {ts : List He.Tab} {g : Addr → Option Obj} {s : Shared} (h : ∀ a, g a = s.heap.get? a) : obsXG n fb fa fn ts g = (hookX n fb fa fn ts).obs s := by
  rw [show g = s.heap.get? from funext h]
  rfl
section
variable {fb : PySem.W.Frag → Bool} {fa : List He.Fa} {fn : List He.DefD} {ts : List He.Tab} {w : World} {K : PySem.W.Frag}
theorem SaysX.t (c : SaysX fb fa fn ts w K) : He.SaysT fa fn ts w K := congrArg (fun z : AlX => z.2) c
theorem SaysX.b (c : SaysX fb fa fn ts w K) : fb K = true := congrArg (fun z : AlX => z.1) c
end
/-! ### the table of ranges: tuples of pairs -/
def pairB (K : PySem.W.Frag) (u : Value) (q : Int × Int) : Bool := match u with
  | .ref a => (match K.lookup a with
    | some ⟨.type c, _, .seq its _, _⟩ => decide (c = "tuple") && (decide (its.size ≤ sizeLine) && He.relAll [.int q.1, .int q.2] its.toList)
    | _ => false)
  | _ => false
def pairsB (K : PySem.W.Frag) : List Value → List (Int × Int) → Bool
  | [], [] => true
  | u :: us, q :: qs => pairB K u q && pairsB K us qs
  | _, _ => false
def rngB (K : PySem.W.Frag) (D : Addr) (kd : Str) (qs : List (Int × Int)) : Bool := match PySem.W.nsIn K D kd with
  | some (some (.ref b)) => (match K.lookup b with
    | some ⟨.type c, _, .seq its _, _⟩ => decide (c = "tuple") && (decide (its.size ≤ sizeLine) && pairsB K its.toList qs)
    | _ => false)
  | _ => false
inductive Pairs (K : PySem.W.Frag) : List V → List (Int × Int) → Prop where
  | nil : Pairs K [] []
  | cons {a : Addr} {xs : List V} {q : Int × Int} {qs : List (Int × Int)} (h : ∀ H, SqT K H a [.int q.1, .int q.2]) (r : Pairs K xs qs) : Pairs K (.ref a :: xs) (q :: qs)
theorem Pairs.len {K : PySem.W.Frag} {xs : List V} {qs : List (Int × Int)} (h : Pairs K xs qs) : xs.length = qs.length := by
  induction h with
  | nil => rfl
  | cons _ _ ih => exact congrArg (· + 1) ih
theorem Pairs.get {K : PySem.W.Frag} {xs : List V} {qs : List (Int × Int)} (h : Pairs K xs qs) : ∀ {i : Nat} {x : V}, xs[i]? = some x → ∃ (a : Addr) (q : Int × Int), x = .ref a ∧ qs[i]? = some q ∧ ∀ H, SqT K H a [.int q.1, .int q.2] := by
  induction h with
  | nil =>
    intro i x e
    simp at e
  | cons h _ ih =>
    intro i x e
    cases i with
    | zero =>
      simp at e
      exact ⟨_, _, e.symm, rfl, h⟩
    | succ i => exact ih (by simpa using e)
theorem pairB_ok {K : PySem.W.Frag} {u : Value} {q : Int × Int} (h : pairB K u q = true) : ∃ a, u = .ref a ∧ ∀ H, SqT K H a [.int q.1, .int q.2] := by
  cases u with
  | ref a =>
    refine ⟨a, rfl, fun H => ?_⟩
    have h : (match K.lookup a with
      | some ⟨.type c, _, .seq its _, _⟩ => decide (c = "tuple") && (decide (its.size ≤ sizeLine) && He.relAll [.int q.1, .int q.2] its.toList)
      | _ => false) = true := h
    cases e : K.lookup a with
    | none =>
      rw [e] at h
      cases h
    | some o =>
      obtain ⟨oc, od, dt, osl⟩ := o
      rw [e] at h
      cases oc with
      | type c =>
        cases dt with
        | seq its n =>
          obtain ⟨h1, h2⟩ := He.ba h
          obtain ⟨h3, h4⟩ := He.ba h2
          exact .inr ⟨_, its, n, e, congrArg Value.type (of_decide_eq_true h1), rfl, of_decide_eq_true h3, He.relAll_ok h4⟩
        | _ => cases h
      | _ => cases dt <;> cases h
  | _ => cases h
theorem pairsB_ok {K : PySem.W.Frag} : ∀ {us : List Value} {qs : List (Int × Int)}, pairsB K us qs = true → ∃ xs, Vals xs us ∧ Pairs K xs qs
  | [], [], _ => ⟨[], .nil, .nil⟩
  | [], _ :: _, h => by cases h
  | _ :: _, [], h => by cases h
  | u :: us, q :: qs, h => by
    obtain ⟨h1, h2⟩ := He.ba (show (pairB K u q && pairsB K us qs) = true from h)
    obtain ⟨a, rfl, ha⟩ := pairB_ok h1
    obtain ⟨xs, r, p⟩ := pairsB_ok h2
    exact ⟨.ref a :: xs, .cons rfl r, .cons ha p⟩
/-- the kind kd has these ranges -/
def Rng (K : PySem.W.Frag) (D : Addr) (kd : Str) (qs : List (Int × Int)) : Prop := ∃ b xs, PySem.W.nsIn K D kd = some (some (.ref b)) ∧ (∀ H, SqT K H b xs) ∧ Pairs K xs qs
theorem rngB_ok {K : PySem.W.Frag} {D : Addr} {kd : Str} {qs : List (Int × Int)} (h : rngB K D kd qs = true) : Rng K D kd qs := by
  unfold rngB at h
  cases e : PySem.W.nsIn K D kd with
  | none =>
    rw [e] at h
    cases h
  | some r =>
    rw [e] at h
    cases r with
    | none => cases h
    | some u =>
      cases u with
      | ref b =>
        have h : (match K.lookup b with
          | some ⟨.type c, _, .seq its _, _⟩ => decide (c = "tuple") && (decide (its.size ≤ sizeLine) && pairsB K its.toList qs)
          | _ => false) = true := h
        cases e2 : K.lookup b with
        | none =>
          rw [e2] at h
          cases h
        | some o =>
          obtain ⟨oc, od, dt, osl⟩ := o
          rw [e2] at h
          cases oc with
          | type c =>
            cases dt with
            | seq its n =>
              obtain ⟨h1, h2⟩ := He.ba h
              obtain ⟨h3, h4⟩ := He.ba h2
              obtain ⟨xs, r, p⟩ := pairsB_ok h4
              exact ⟨b, xs, e, fun H => .inr ⟨_, its, n, e2, congrArg Value.type (of_decide_eq_true h1), rfl, of_decide_eq_true h3, r⟩, p⟩
            | _ => cases h
          | _ => cases dt <;> cases h
      | _ => cases h
/-- RANGES[kind] -/
theorem ix_kd {X : Cx} {d : Addr} {es : Array DictEntry} {n : Nat} (D : KDict X.K X.w d es n) : True := trivial
end Sz
/-! own classes: methods and makers by their promises -/
namespace Sz
open PySem PySem.Spec PyProof.Rows L2
/-- a method's def by its class -/
def DefAtM (K : PySem.W.Frag) (C m q : Str) (st : Stmt) : Prop := ∃ fd, FunD K m q (defArgs st) (defBody st) (defScope st) [] [] (He.ma K (He.ga K C) m) fd
/-- the method m of C keeps the promise sp (the receiver stands first) -/
structure PromM (P : Program) (w : World) (K : PySem.W.Frag) (mg : Str → Option Value) (base : Heap) (CX : CXT) (k : Nat) (C m : Str) (ps : List Str) (sp : Sp) : Prop where
  cl : Cls K (He.ga K C)
  me : Meth K (He.ga K C) m (He.ma K (He.ga K C) m)
  ex : ∃ fd, FnOk P w K mg base CX k (He.ma K (He.ga K C) m) fd ps sp ∧ Binds K fd ps []
/-- C(..) keeps the promise sp: what is told of the values handed in -/
structure PromC (P : Program) (w : World) (K : PySem.W.Frag) (mg : Str → Option Value) (base : Heap) (CX : CXT) (k : Nat) (C : Str) (sp : Sp) : Prop where
  make : Mk K (He.ga K C) (He.ma K (He.ga K C) "__init__")
  mg_ : mg C = some (.ref (He.ga K C))
  ex : ∃ sp0, FnR P w K mg base CX k (He.ma K (He.ga K C) "__init__") sp0 ∧ ∀ vs H Q E, sp vs H Q E → ∀ x dx, H x = none → H dx = none → dx ≠ x →
    sp0 (V.ref x :: vs) (upd (upd H dx (.own x)) x (.ins (He.ga K C) dx [])) (fun v H2 => v = .non ∧ Q (.ref x) H2) E
section
variable {P : Program} {w : World} {K : PySem.W.Frag} {mg : Str → Option Value} {base : Heap}
theorem PromM.of {C m q : Str} {st : Stmt} {ps N : List Str} {sp : Sp} {k : Nat} (cl : Cls K (He.ga K C)) (me : Meth K (He.ga K C) m (He.ma K (He.ga K C) m)) (D : DefAtM K C m q st) (S : FnScope N ps (defScope st)) (len : ∀ vs H Q E, sp vs H Q E → vs.length = ps.length)
    (hb : ∀ (kV doc pm : Value) (an : Option Addr) (cdv ct : Value) (us : List Value), us.length = ps.length → bindArgs (PySem.W.fnOf m q (defArgs st) (defBody st) (defScope st) .none kV doc pm an cdv ct) ⟨us, []⟩ = pure (ps.zip us))
    (hbody : ∀ (f : Addr) (cdv : Value) (A : Around) (outer : List Env) (s : Shared) (H : Hp) (vs : List V) (Q : VK) (E : XK), Room k (A.deeper (envOfC q (defScope st) s.heap.objs.size f cdv)) → sp vs H Q E →
      ∃ t, PSs (cxOf CX0 P w K mg base N q (defScope st) f cdv A outer s H E).nox (defBody st) t ∧ t { nx := fun _ H' => Q .non H', rt := Q } (start N vs) H) :
    PromM P w K mg base CX0 (k + 1) C m ps sp := by
  obtain ⟨fd, F⟩ := D
  refine ⟨cl, me, fd, F.ok S len (fun cdv A outer s H vs Q E hr hs => ?_), F.bindsN hb⟩
  obtain ⟨t, h1, h2⟩ := hbody _ cdv A outer s H vs Q E hr hs
  exact ⟨t, h1.nox, h2⟩
/-- a class whose __init__ takes (self, one, *rest) -/
theorem PromC.star {C q p0 p1 pv : Str} {st : Stmt} {N : List Str} {sp sp0 : Sp} {k : Nat} (mk : Mk K (He.ga K C) (He.ma K (He.ga K C) "__init__")) (hm : mg C = some (.ref (He.ga K C))) (D : DefAtM K C "__init__" q st) (S : FnScope N [p0, p1, pv] (defScope st))
    (h0 : ∀ (kV doc pm : Value) (an : Option Addr) (cdv ct a b : Value), bindArgs (PySem.W.fnOf "__init__" q (defArgs st) (defBody st) (defScope st) .none kV doc pm an cdv ct) ⟨[a, b], []⟩ = (newTuple [] >>= fun t => pure [(p0, a), (p1, b), (pv, t)]))
    (h1 : ∀ (kV doc pm : Value) (an : Option Addr) (cdv ct a b r : Value) (rs : List Value), bindArgs (PySem.W.fnOf "__init__" q (defArgs st) (defBody st) (defScope st) .none kV doc pm an cdv ct) ⟨a :: b :: r :: rs, []⟩ = (newTuple (r :: rs) >>= fun t => pure [(p0, a), (p1, b), (pv, t)]))
    (hbody : ∀ (f : Addr) (cdv : Value) (A : Around) (outer : List Env) (s : Shared) (H : Hp) (vs : List V) (Q : VK) (E : XK), Room k (A.deeper (envOfC q (defScope st) s.heap.objs.size f cdv)) → sp0 vs H Q E →
      ∃ t, PSs (cxOf CX0 P w K mg base N q (defScope st) f cdv A outer s H E).nox (defBody st) t ∧ t { nx := fun _ H' => Q .non H', rt := Q } (start N vs) H)
    (hsp : ∀ vs H Q E, sp vs H Q E → ∃ v rest, vs = v :: rest ∧ rest.length ≤ sizeLine ∧ ∀ x dx p, H x = none → H dx = none → dx ≠ x → p ≠ x → p ≠ dx → H p = none →
      sp0 [.ref x, v, .ref p] (upd (upd (upd H dx (.own x)) x (.ins (He.ga K C) dx [])) p (.tup rest)) (fun u H2 => u = .non ∧ Q (.ref x) H2) E) :
    PromC P w K mg base CX0 (k + 1) C sp := by
  obtain ⟨fd, F⟩ := D
  obtain ⟨oc, od, dV, kV, doc, pm, an, cdv, ct, osl, rfl, lk, hcd, hD, hK⟩ := F.ex
  rcases hD with ⟨_, rfl⟩ | ⟨e, _⟩
  · refine ⟨mk, hm, _, StX.fn_star (ps := [p0, p1]) (pv := pv) (sp := sp0) lk hcd S StX.cxUp_none (StX.bind_star2 (B := fun us => bindArgs _ ⟨us, []⟩) (fun a b => h0 kV doc pm an cdv ct a b) fun a b r rs => h1 kV doc pm an cdv ct a b r rs) (fun A outer s H vs Q E hr hs => ?_), fun vs H Q E hs x dx hx hdx ne => ?_⟩
    · obtain ⟨t, h1, h2⟩ := hbody _ cdv A outer s H vs Q E hr hs
      exact ⟨t, h1.nox, h2⟩
    · obtain ⟨v, rest, rfl, hl, hq⟩ := hsp vs H Q E hs
      refine ⟨[.ref x, v], rest, rfl, rfl, hl, fun p hp => ?_⟩
      have nx : p ≠ x := fun z => by rw [z, upd_same] at hp; cases hp
      rw [upd_ne nx] at hp
      have nd : p ≠ dx := fun z => by rw [z, upd_same] at hp; cases hp
      rw [upd_ne nd] at hp
      exact hq x dx p hx hdx ne nx nd hp
  · exact absurd rfl e
end
section
variable {X : Cx} {CX : CXT} {k : Nat} {x C m : Str} {ps : List Str} {sp : Sp} {E : XK} {e o : Expr} {es : List Expr} {ta : TE} {t : TA} {p pos apos : Pos}
theorem pe_methP {pl : Sem Bool} (G : PromM X.prog X.w X.K X.mg X.base CX k C m ps sp) (hr : Room k X.A) (hx : Passes CX X E) (he : PE X o ta) (ha : PA X (e :: es) t)
    (hst : starEach (e :: es) X.env = (false, eval e X.env) :: starEach es X.env := by rfl) (hpl : (backTo pos (starEach es X.env)).any (·.1) = false := by rfl)
    (ht : eval (.Call (.Attribute o m apos) (e :: es) [] pos) X.env = (do
      let ov ← eval o X.env
      standAt apos.atName
      let (f, first) ← holding [ov] (getMethod ov m pl)
      callWith pos f first (backTo pos (starEach (e :: es) X.env)) (backToKw pos (keywordEach [] X.env))) := by rfl) : PE X (.Call (.Attribute o m apos) (e :: es) [] pos) (tMeth (He.ga X.K C) m sp [] E ta t) := by
  obtain ⟨fd, F, b⟩ := G.ex
  exact pe_meth he G.cl G.me F hr b .nil hx ha hst hpl ht
theorem pe_methP0 {pl : Sem Bool} (G : PromM X.prog X.w X.K X.mg X.base CX k C m ps sp) (hr : Room k X.A) (hx : Passes CX X E) (he : PE X o ta)
    (ht : eval (.Call (.Attribute o m apos) [] [] pos) X.env = (do
      let ov ← eval o X.env
      standAt apos.atName
      let (f, first) ← holding [ov] (getMethod ov m pl)
      callWith pos f first (backTo pos (starEach [] X.env)) (backToKw pos (keywordEach [] X.env))) := by rfl) : PE X (.Call (.Attribute o m apos) [] [] pos) (tMeth (He.ga X.K C) m sp [] E ta tNil) := by
  obtain ⟨fd, F, b⟩ := G.ex
  exact pe_meth0 he G.cl G.me F hr b .nil hx ht
/-- C(e, ..) by what is promised of it -/
def tNew (sp : Sp) (E : XK) (t : TA) : TE := fun σ H Q => t σ H fun vs H1 => sp vs H1 Q E
theorem pe_newP (G : PromC X.prog X.w X.K X.mg X.base CX k x sp) (hr : Room (k + 1) X.A) (hg : Gl X x) (hx : Passes CX X E) (ha : PA X (e :: es) t)
    (hdb : (x == ("__debug__" : Str)) = false := by decide) (he : starEach (e :: es) X.env = (false, eval e X.env) :: starEach es X.env := by rfl) (hpl : (backTo pos (starEach es X.env)).any (·.1) = false := by rfl) :
    PE X (.Call (.Name x p) (e :: es) [] pos) (tNew sp E t) := by
  obtain ⟨sp0, F, hs⟩ := G.ex
  refine ⟨fun pins s σ H Q I h => wpAny_Call_Name_kw (ld_glob I hg G.mg_ (PySem.W.callWith_K (h₀ := X.base) I.ok.mod.kin G.make.kp (thn (ha.run pos pins s σ H _ I h) fun us s1 ⟨vs, H1, I1, r, q⟩ => ⟨I1.kIn, ?_⟩) he hpl) hdb)⟩
  exact StX.run_makeR G.make F hr hx I1 r fun a dx h1 h2 h3 => hs vs H1 Q E q a dx h1 h2 h3
/-- C(e, .., *y) -/
theorem pe_newS (G : PromC X.prog X.w X.K X.mg X.base CX k x sp) (hr : Room (k + 1) X.A) (hg : Gl X x) (hx : Passes CX X E) (ha : PA X (e :: es) t)
    (hdb : (x == ("__debug__" : Str)) = false := by decide) (he : starEach (e :: es) X.env = (false, eval e X.env) :: starEach es X.env := by rfl) (hst : (backTo pos (starEach es X.env)).any (·.1) = true := by rfl) :
    PE X (.Call (.Name x p) (e :: es) [] pos) (tNew sp E t) := by
  obtain ⟨sp0, F, hs⟩ := G.ex
  refine ⟨fun pins s σ H Q I h => wpAny_Call_Name_kw (ld_glob I hg G.mg_ (PySem.W.callWith_S2 (h₀ := X.base) I.ok.mod.kin G.make.kp (thn (ha.run pos pins s σ H _ I h) fun us s1 ⟨vs, H1, I1, r, q⟩ => ⟨I1.kIn, ?_⟩) he hst) hdb)⟩
  exact StX.run_makeR G.make F hr hx I1 r fun a dx h1 h2 h3 => hs vs H1 Q E q a dx h1 h2 h3
end
/-- s[i], s a list or a tuple -/
theorem ix_any {X : Cx} : IxR X (fun x y H Q => rIxL X.K x y H Q ∨ rIxT X.K x y H Q) := by
  intro value slice pins s σ H x y v u Q I rx ry h hs
  rcases h with h | h
  · exact ix_list value slice pins s σ H x y v u Q I rx ry h hs
  · exact ix_tup value slice pins s σ H x y v u Q I rx ry h hs
theorem pe_gstr {X : Cx} {x : Str} {pos : Pos} {v : Str} (h : ∃ u, X.mg x = some (.str v u)) (hg : Gl X x := by rfl) (hd : (x == ("__debug__" : Str)) = false := by decide) : PE X (.Name x pos) (tC (.str v)) := by
  obtain ⟨u, hm⟩ := h
  exact pe_glob hg hm ⟨_, rfl⟩ hd
/-- what isinstance asks of an own class -/
structure IsiK (K : PySem.W.Frag) (C : Addr) : Prop where
  cl : Cls K C
  ha : PySem.W.findIn K (.ref C) "__class__" = some (some (.builtin "object.__class__"))
  hn : PySem.W.specialIn K (.builtin "object.__class__") "__get__" = some (some (.builtin "getset_descriptor.__get__"))
  htk : PySem.W.takesIn K (.builtin "object.__class__") = some true
  hm : PySem.W.mroIn K C (.type "object") = some true
def isiB (K : PySem.W.Frag) (C : Addr) : Bool := He.eqO (PySem.W.findIn K (.ref C) "__class__") (some (some (.builtin "object.__class__"))) && (He.eqO (PySem.W.specialIn K (.builtin "object.__class__") "__get__") (some (some (.builtin "getset_descriptor.__get__"))) &&
  (decide (PySem.W.takesIn K (.builtin "object.__class__") = some true) && decide (PySem.W.mroIn K C (.type "object") = some true)))
theorem isiB_ok {K : PySem.W.Frag} {C : Addr} (cl : Cls K C) (h : isiB K C = true) : IsiK K C := by
  obtain ⟨h1, h⟩ := He.ba h
  obtain ⟨h2, h⟩ := He.ba h
  obtain ⟨h3, h4⟩ := He.ba h
  exact ⟨cl, He.eqO_ok h1, He.eqO_ok h2, of_decide_eq_true h3, of_decide_eq_true h4⟩
theorem IsiK.ty {K : PySem.W.Frag} {C : Addr} (i : IsiK K C) {H : Hp} {a dx : Addr} {fs : List (Str × V)} (h : H a = some (.ins C dx fs)) : TyX K H (.ref a) (.ref C) := .base (.ins h i.cl i.ha i.hn i.htk i.hm)
theorem kit_self {K : PySem.W.Frag} {t : Value} : PySem.W.kitOne K t t = some true := by
  unfold PySem.W.kitOne
  rw [if_pos (by simp)]
end Sz
/-! enumerate over a tuple (the hand layer has it for lists): by what the tuple's iterator draws -/
namespace Sz
open PySem PySem.Spec PyProof.Rows L2
/-- enumerate(v) where iter(v) begins an object o -/
theorem meets_enum1 {v : Value} {o : Obj} {Hh : Heap → Prop} (B : Begins v o Hh) : Meets (Builtin.«enumerate.__new__» ⟨[.type "enumerate", v], []⟩) (fun _ R s => Hh s.heap ∧ R (.ok (.ret (.ref (s.heap.push o).objs.size)))
    { s with heap := (s.heap.push o).push { cls := .type "enumerate", data := .fields #[.none, .bool false, .ref s.heap.objs.size, rawInt 0, .none, .none] } }) := .of_wp fun prog w A R s h => by
  obtain ⟨hp, g, d, tk, os⟩ := s
  have hsub := sub_enumerate
  have it1 : ∀ {A' : Around} {Ex : Value → Shared → Prop} {Q : Value → Shared → Prop}, Q (.ref hp.objs.size) ⟨hp.push o, g, d, tk, os⟩ → wpAny (model prog w) A' (pyIter v) Q Ex ⟨hp, g, d, tk, os⟩ := fun q => B.iter prog w _ _ ⟨hp, g, d, tk, os⟩ _ h.1 q
  wp_walk using it1
  refine wpAny_stack_any (fun st => wpAny_pure ?_)
  split
  · rename_i c _ _ _ _ _
    cases (c == Value.type "enumerate") <;> (wp_walk using it1; exact ⟨_, rfl, h.2⟩)
  · wp_walk using it1
    exact ⟨_, rfl, h.2⟩
theorem call_enum1 {prog : Program} {w : World} {A : Around} {Ex : Value → Shared → Prop} {s : Shared} {v : Value} {o : Obj} {Hh : Heap → Prop} {Q : Value → Shared → Prop} (B : Begins v o Hh) (h1 : Hh s.heap)
    (k : ∀ h', IsEnum h' (s.heap.objs.size + 1) s.heap.objs.size 0 .none → h'.get? s.heap.objs.size = some o → (∀ b u, s.heap.get? b = some u → h'.get? b = some u) → Q (.ref (s.heap.objs.size + 1)) { s with heap := h' }) :
    wpAny (model prog w) A (call (.type "enumerate") [v]) Q Ex s := by
  refine callType_new F.called_enumerate (by decide) (F.typeCall_enumerate_1 _) (F.newCall_enumerate_1 _) (fun obj => F.args_object_init_2 obj _) F.entry_enumerate_new (meets_enum1 B) ⟨h1, ?_⟩
  have z : (s.heap.push o).objs.size = s.heap.objs.size + 1 := Heap.size_push ..
  have e := Heap.get?_push_size (s.heap.push o) (o := { cls := .type "enumerate", data := .fields #[.none, .bool false, .ref s.heap.objs.size, rawInt 0, .none, .none] }) rfl
  rw [z] at e
  show _ ∧ _
  rw [z]
  exact ⟨⟨_, e, rfl⟩, k _ e (Heap.get?_push_of_some _ (Heap.get?_push_size _ B.free)) fun b u x => Heap.get?_push_of_some _ (Heap.get?_push_of_some _ x)⟩

/-- the tuple at a, each item in a new pair -/
def IteT (K : PySem.W.Frag) (a : Addr) : It where
  go := fun i H => ∃ (xs : List V) (x : V), SqT K H a xs ∧ xs[i]? = some x
  yld := fun i H v H' => ∃ T x, v = .ref T ∧ H T = none ∧ H' = upd H T (.tup [.int (i : Nat), x]) ∧ ∀ xs, SqT K H a xs → xs[i]? = some x
  stop := fun i H => ∃ xs : List V, SqT K H a xs ∧ xs.length ≤ i
section
variable {X : Cx} {pins : List (Addr × Obj)} {σ : L2.St} {H : Hp} {s : Shared} {a e it : Addr} {i : Nat} {old : Value} {its : List Value}
theorem enumT_walks (hd : X.A.handled = none) (he : IsEnum s.heap e it ((i : Nat) : Int) old) (hit : s.heap.IsTupleIter it a i) (hne : e ≠ it) (p : s.heap.IsTuple a its.toArray) :
    WalksT X.prog X.w X.A e [e, it, a] [e, it] its.toArray.size (fun i vals => ∃ t x, its.toArray[i]? = some x ∧ vals = #[.int i t, x]) (fun i h => (∃ old, IsEnum h e it i old) ∧ h.IsTupleIter it a i ∧ h.IsTuple a its.toArray)
      (fun i T h => (∃ x, IsEnumOut h e it ((i : Int) + 1) x T) ∧ (h.IsTupleIter it a (i + 1) ∧ h.IsTuple a its.toArray) ∧ T ≠ e ∧ T ≠ it) := by
  have n1 : a ≠ it := fun z => by
    obtain ⟨o1, q1, c1, _⟩ := p
    obtain ⟨o2, q2, c2, _⟩ := hit
    rw [z, q2] at q1
    cases q1
    exact absurd (c2.symm.trans c1) (by decide)
  have n2 : e ≠ a := fun z => by
    obtain ⟨o1, q1, c1, _⟩ := p
    have he' : s.heap.get? e = _ := he
    rw [z, q1] at he'
    cases he'
    have c1 : Value.type "enumerate" = Value.type "tuple" := c1
    exact absurd c1 (by decide)
  exact WalksT.enumerateD (A := X.A) (Draws.tuple (A := X.A.in1) hd it a n1 its.toArray) e hne (by simp [hne, n2]) (by simp)
end
theorem enumT_done {prog : Program} {w : World} {A : Around} {Ex : Value → Shared → Prop} {s : Shared} {a e it : Addr} {i : Nat} {old : Value} {items : Array Value} {Q : Option Value → Shared → Prop} (hh : A.handled = none) (he : IsEnum s.heap e it ((i : Nat) : Int) old)
    (hit : s.heap.IsTupleIter it a i) (p : s.heap.IsTuple a items) (hx : items[i]? = none) (k : ∀ h', Heap.ExtBut it s.heap h' → Q none { s with heap := h' }) : wpAny (model prog w) A (pyNext (.ref e)) Q Ex s := by
  unfold pyNext
  refine wpAny_bind (wpAny_attempt (wpAny_callSpecial?_slot (name := Str.ofString "__next__") ⟨_, he, rfl⟩ F.slot_enumerate_next (wpAny_call_entry F.slot_enumerate_next ⟨_, he, rfl⟩ F.entry_enumerate_next ?_ (F.args_enumerate_next_1 _))))
  show wpAny _ _ (field (.ref e) 2 >>= _) _ _ s
  refine wpAny_bind (wpAny_field he rfl (x := .ref it) rfl (wpAny_bind (wpAny_nextOf_tuple_end hh hit p hx fun h' x ext ⟨o, ho, hc⟩ => ?_)))
  exact wpAny_bind (wpAny_isInstance (T := "StopIteration") (b := true) ⟨o, ho, hc⟩ isSubtype_stop (wpAny_pure (k _ ext)))
theorem turn_enumT {P : Program} {w : World} {K : PySem.W.Frag} {elts : List Expr} {kk : Nat} {tpos : Pos} (a e it : Addr) :
    Turn P w K (.Tuple elts kk tpos) (IteT K a) [e, it] e (fun i h => (∃ old, IsEnum h e it ((i : Nat) : Int) old) ∧ h.IsTupleIter it a i ∧ e ≠ it) where
  mem := List.mem_cons_self ..
  obj := fun i h st b hb => by
    obtain ⟨⟨old, he⟩, ⟨o, ho, _, hd⟩, _⟩ := st
    rcases List.mem_cons.mp hb with z | z
    · subst z
      exact ⟨_, he, fun v q => nomatch q⟩
    · rw [List.mem_singleton.mp z]
      exact ⟨o, ho, fun v q => by rw [hd] at q; cases q⟩
  keep := fun i h h' ⟨⟨old, he⟩, hi, hne⟩ k => ⟨⟨old, k e (List.mem_cons_self ..) _ he⟩, hi.at fun o q => k it (List.mem_cons_of_mem _ (List.mem_cons_self ..)) o q, hne⟩
  item := by
    intro X hP hw hK hc i pins s σ H E I hf ⟨⟨old, he⟩, hit, hne⟩ ⟨xs, x, hq, hx⟩
    subst hP hw hK
    obtain ⟨its, rv, p, hz⟩ := I.tuple hq
    obtain ⟨u, hu, ru⟩ := rv.get hx
    have p' : s.heap.IsTuple a its.toArray := p
    have W := enumT_walks (X := X) (I.ok.hd hc) he hit hne p'
    have hlt : i < its.toArray.size := by simpa using (List.getElem?_eq_some_iff.mp hu).1
    refine W.item i s _ E hlt ⟨⟨old, he⟩, hit, p'⟩ fun T vals h' tk hv hT isT mid k1 => ⟨_, rfl, ?_⟩
    obtain ⟨t, y, hy, rfl⟩ := hv
    have ey : u = y := by
      have e1 : its.toArray[i]? = some u := by simpa using hu
      exact Option.some.inj (e1.symm.trans hy)
    subst ey
    refine W.go elts kk tpos i T { s with heap := h', toks := tk } _ E mid fun h2 st2 k2 => ?_
    have away := W.apart i T h' mid
    obtain ⟨oT, hoT, cT, nT, dT⟩ := isT
    have hoT2 : h2.get? T = some oT := k2 T oT away hoT
    have new : ObjOk X.prog X.w (upd H T (.tup [.int (i : Nat), x])) h2 T (.tup [.int (i : Nat), x]) := ⟨by show 2 ≤ sizeLine; decide, [.int i t, u], .cons ⟨_, rfl⟩ (.cons ru .nil), ⟨oT, hoT2, cT, nT, dT⟩⟩
    have I1 : Inv X pins σ (upd H T (.tup [.int (i : Nat), x])) { s with heap := h2, toks := tk } := I.turnedNew (ch := [e, it]) (fun b ob hb q => k2 b ob hb (k1 b ob hb q)) hf hT new
    refine ⟨.ref T, _, I1, rfl, ⟨T, x, rfl, I.hok.fresh hT, rfl, fun ys hy => by rw [I.tuple_inj hy hq]; exact hx⟩, ⟨st2.1, st2.2.1, hne⟩, fun b hb => ?_⟩
    have nb : b ≠ T := fun z => away (by rw [← z]; exact hb)
    rw [upd_ne nb]
    exact (hf b hb).1
  done := by
    intro X hP hw hK hc i pins s σ H E I hf ⟨⟨old, he⟩, hit, hne⟩ ⟨xs, hq, hx⟩
    subst hP hw hK
    obtain ⟨its, rv, p, hz⟩ := I.tuple hq
    have p' : s.heap.IsTuple a its.toArray := p
    have hl := rv.length
    obtain ⟨o, ho, cT, nT, dT⟩ := id p'
    obtain ⟨f0, f1, f2, f3, f4, f5⟩ := hf it (List.mem_cons_of_mem _ (List.mem_cons_self ..))
    refine enumT_done (I.ok.hd hc) he hit p' (by simp; omega) fun h' ex => ⟨rfl, I.turned (t' := s.toks) (fun b ob hb q => ex b ob hb q) f0 f1 f3 f4 f5⟩
  self := fun A i s Q E ⟨⟨_, he⟩, _⟩ h => wpAny_pyIter_enum he h
def iEnumT (K : PySem.W.Frag) (ta : TA) : TI := fun σ H R => ta σ H fun vs H1 => ∃ a xs, vs = [.ref a] ∧ SqT K H1 a xs ∧ R (IteT K a) H1
theorem pi_enumT {X : Cx} {e : Expr} {ta : TA} {p pos tpos : Pos} {elts : List Expr} {kk : Nat} (hg : Gl X "enumerate") (hm : X.mg "enumerate" = none) (ha : PA X [e] ta) (hs : starEach [e] X.env = [(false, eval e X.env)] := by rfl) :
    PI X (.Tuple elts kk tpos) (.Call (.Name "enumerate" p) [e] [] pos) (iEnumT X.K ta) := by
  refine ⟨fun pins s σ H R I h => Call_ (ld_blt I hg hm boot_enumerate (PyProof.Rows.callWith_type1 (thn (ha.run pos pins s σ H _ I h) fun us s1 ⟨vs, H1, I1, r1, q1⟩ => ?_) hs rfl))⟩
  obtain ⟨a, xs, rfl, hq, q⟩ := q1
  cases r1 with
  | cons r rr =>
    cases rr
    cases r
    obtain ⟨its, rv, p', hz⟩ := I1.tuple hq
    refine call_enum1 (begins_tuple a its.toArray) (show s1.heap.IsTuple a its.toArray from p') fun h' he hit hk => wpAny_pyIter_enum he ?_
    refine ⟨s1.heap.objs.size + 1, [s1.heap.objs.size + 1, s1.heap.objs.size], _, _, H1, rfl, I1.kept (t' := s1.toks) hk, turn_enumT a _ _, ⟨⟨.none, he⟩, ⟨_, hit, rfl, rfl⟩, Nat.succ_ne_self _⟩, fun b hb => ?_, q⟩
    have hle : s1.heap.objs.size ≤ b := by
      rcases List.mem_cons.mp hb with z | z
      · rw [z]
        exact Nat.le_add_right _ 1
      · rw [List.mem_singleton.mp z]
        exact Nat.le_refl _
    exact I1.fpOk hle (I1.hok.fresh hle)
theorem walk_enumT {K : PySem.W.Frag} {a : Addr} {xs : List V} : Walk (IteT K a) xs.length (fun H => SqT K H a xs) (YPair (fun i => some (.int (i : Nat))) (fun i => xs[i]?)) :=
  ⟨fun i _ hi q => ⟨xs, xs[i], q, by simp [hi]⟩, fun _ q => ⟨xs, q, Nat.le_refl _⟩, fun i H v H' _ q ⟨T, x, h1, h2, h3, h4⟩ => ⟨T, .int (i : Nat), x, h1, h2, h3, rfl, h4 xs q⟩⟩
end Sz
namespace Sz
open PySem PySem.Spec PyProof.Rows L2
/-! ### ranges of integers of any size -/
theorem turn_long {P : Program} {w : World} {K : PySem.W.Frag} {tg : Expr} (it : Addr) (lo : Int) (n : Nat) :
    Turn P w K tg (Itr lo n) [it] it (fun i h => IsLongIter h it (lo + (i : Nat) * 1) ((n : Int) - (i : Nat)) 1) := by
  have fpit : ∀ {X : Cx} {pins : List (Addr × Obj)} {σ : L2.St} {H : Hp} {s : Shared} {h' : Heap} {tk : Nat}, Inv X pins σ H s → FpOk X pins H it → (∀ b o, b ≠ it → s.heap.get? b = some o → h'.get? b = some o) → Inv X pins σ H { s with heap := h', toks := tk } := fun I f k => by
    obtain ⟨g0, g1, _, g3, g4, g5⟩ := f
    exact I.turned k g0 g1 g3 g4 g5
  constructor
  · exact List.mem_singleton_self it
  · intro i h z b hb
    cases List.mem_singleton.mp hb
    refine ⟨_, z, fun v y => ?_⟩
    have y' : Data.fields _ = Data.cell v := y
    cases y'
  · exact fun i h h' z keep => keep it (List.mem_singleton_self it) _ z
  · intro X e1 e2 e3 calm i pins s σ H E I fp z go
    subst e1 e2 e3
    have wk := Walks.longrange (prog := X.prog) (w := X.w) (I.ok.hd calm) it lo 1 n
    refine wk.item i s _ _ go z ?_
    rintro v h' tk ⟨t, rfl⟩ z' kp
    have J := fpit (tk := tk) I (fp it (List.mem_singleton_self it)) fun b o hb e => kp b o (by simpa using hb) e
    refine ⟨_, rfl, go_of (s := { s with heap := h', toks := tk }) (n := "longrange_iterator") z' rfl rfl (by decide) ?_⟩
    exact ⟨.int (lo + i), H, J, ⟨t, by rw [Int.mul_one]⟩, ⟨rfl, rfl⟩, z', fun b hb => (fp b hb).1⟩
  · intro X e1 e2 e3 calm i pins s σ H E I fp z stop
    subst e1 e2 e3
    refine wpAny_pyNext_long_end (I.ok.hd calm) z (by have : n ≤ i := stop; omega) fun h' eb => ⟨rfl, ?_⟩
    exact fpit (tk := s.toks) I (fp it (List.mem_singleton_self it)) eb
  · exact fun A i s Q E z h => wpAny_pyIter_longiter z h
section
variable {X : Cx} {tg : Expr}
theorem range_any {pins : List (Addr × Obj)} {σ : L2.St} {H : Hp} {s : Shared} {R : It → Hp → Prop} {E : Value → Shared → Prop} {lo hi : Int} {t u v : Tok} {tk : Nat} (I : Inv X pins σ H s)
    (q : R (Itr lo (hi - lo).toNat) H) : wpAny (model X.prog X.w) X.A (pyIter (.ref s.heap.objs.size)) (PIE X pins σ tg R) E { s with heap := s.heap.push { cls := .type "range", data := .fields #[.int lo t, .int hi u, .int 1 v] }, toks := tk } := by
  generalize hr : s.heap.push { cls := .type "range", data := .fields #[.int lo t, .int hi u, .int 1 v] } = hp
  have J : Inv X pins σ H { s with heap := hp, toks := tk } := by
    rw [← hr]
    exact I.kept fun b o e => Heap.get?_push_of_some _ e
  have fresh : ∀ b ∈ [hp.objs.size], FpOk X pins H b := fun b hb => by
    cases List.mem_singleton.mp hb
    exact J.fpOk (Nat.le_refl _) (J.hok.fresh (Nat.le_refl _))
  have ir : IsRange hp s.heap.objs.size lo hi 1 t u v := by
    rw [← hr]
    exact IsRange.new ..
  have x0 : lo + ((0 : Nat) : Int) * 1 = lo := by simp
  have n0 : (((hi - lo).toNat : Nat) : Int) - ((0 : Nat) : Int) = Builtin.Range.rangeSize lo hi 1 := by
    rw [rangeSize_one]
    split <;> omega
  cases sm : Builtin.Range.small lo hi 1 with
  | true =>
    refine wpAny_pyIter_range ir sm ?_
    refine ⟨hp.objs.size, [hp.objs.size], _, _, H, rfl, J.kept (t' := tk) fun b o e => Heap.get?_push_of_some _ e, turn_range _ lo (hi - lo).toNat, ?_, fresh, q⟩
    show IsRangeIter _ _ (lo + ((0 : Nat) : Int) * 1) ((((hi - lo).toNat : Nat) : Int) - ((0 : Nat) : Int)) 1
    rw [x0, n0]
    exact Heap.get?_push_size hp rfl
  | false =>
    refine wpAny_pyIter_longrange ir sm ?_
    refine ⟨hp.objs.size, [hp.objs.size], _, _, H, rfl, J.kept (t' := tk) fun b o e => Heap.get?_push_of_some _ e, turn_long _ lo (hi - lo).toNat, ?_, fresh, q⟩
    show IsLongIter _ _ (lo + ((0 : Nat) : Int) * 1) ((((hi - lo).toNat : Nat) : Int) - ((0 : Nat) : Int)) 1
    rw [x0, n0]
    exact Heap.get?_push_size hp rfl
def iRngA (ta : TA) : TI := fun σ H R => ta σ H fun vs H1 => ∃ i j : Int, vs = [.int i, .int j] ∧ R (Itr i (j - i).toNat) H1
theorem pi_range2A {a b : Expr} {ta : TA} {p pos : Pos} (hg : Gl X "range") (hm : X.mg "range" = none) (ha : PA X [a, b] ta) (s1 : starEach [a, b] X.env = [(false, eval a X.env), (false, eval b X.env)] := by rfl) (s2 : starEach [b] X.env = [(false, eval b X.env)] := by rfl) :
    PI X tg (.Call (.Name "range" p) [a, b] [] pos) (iRngA ta) := by
  constructor
  intro pins s σ H R I h
  refine Call_ (ld_blt I hg hm boot_range (PyProof.Rows.callWith_type1 (thn (ha.run pos pins s σ H _ I h) ?_) (by rw [s1, s2]) (by rw [s2]; rfl)))
  rintro us sA ⟨vs, H1, I1, r1, i, j, rfl, q⟩
  obtain ⟨t, t', rfl⟩ := Vals.int2 r1
  exact call_range_2 (range_any I1 q)
end
end Sz
namespace Sz
open PySem PySem.Spec PyProof.Rows L2
/-! ### list(range(a, b)) of integers of any size -/
section
variable {prog : Program} {w : World} {A : Around} {E : Value → Shared → Prop} {s : Shared}
/-- L.extend(range(a, b)), L empty -/
theorem extend_long {R : Result → Shared → Prop} {r : Addr} {a b : Int} {t u v : Tok} {n : Nat} (calm : A.handled = none) (ir : IsRange s.heap r a b 1 t u v) (big : Builtin.Range.small a b 1 = false) (size : Builtin.Range.rangeSize a b 1 = n) (few : n ≤ 2 ^ 24)
    (L : Addr) (out : Value) (c : Nat) (hL : s.heap.get? L = some { cls := .type "list", data := .seq #[] c })
    (goal : ∀ h' tk its c', (∀ x o, x ≠ L → s.heap.get? x = some o → h'.get? x = some o) → h'.get? L = some { cls := .type "list", dict := none, data := .seq its c', slots := #[] } → ItemsOf (fun i z => ∃ y, z = .int (a + i * 1) y) its n →
      R (.ok (.ret out)) { s with heap := h', toks := tk }) :
    wpAny (model prog w) A.in1 (Builtin.List.listExtendWith (.ref L) (.ref r) out) (fun fin s' => match fin with
      | .done f => R (.ok f) s'
      | .again c' => c'.quiet = true ∧ codeAny (model prog w) A c' R s') (fun e s' => R (.error e) s') s := by
  have ne1 : L ≠ r := by
    rintro rfl
    rw [ir] at hL
    simp at hL
  have ne2 : L ≠ s.heap.objs.size := Nat.ne_of_lt (Heap.lt_size hL)
  have wk := (Walks.longrange (prog := prog) (w := w) (A := A.in1) calm s.heap.objs.size a 1 n).toS
  have loop : ∀ (h : Heap) (c1 tk : Nat), IsLongIter h s.heap.objs.size (a + ((0 : Nat) : Int) * 1) ((n : Int) - ((0 : Nat) : Int)) 1 → (∀ x o, x ≠ L → s.heap.get? x = some o → h.get? x = some o) → h.get? L = some { cls := .type "list", data := .seq #[] c1 } →
      codeAny (model prog w) A (.builtin "list.extend.loop" ⟨[.ref L, .ref s.heap.objs.size, out], []⟩) R { s with heap := h, toks := tk } := fun h c1 tk z kp hl => by
    refine codeAny_extend_loopS wk (by rw [sizeLine_eq]; omega) L (fun m => ne2 (List.mem_singleton.mp m)) out n 0 _ #[] c1 rfl (Nat.zero_le _) z hl (ItemsOf.nil _) ?_
    intro s' its c' mv hl' hi
    rw [Moved.eq_with mv]
    refine goal s'.heap s'.toks its c' (fun x o hx e => mv.heap x o (fun m => ?_) (kp x o hx e)) hl' hi
    cases List.mem_cons.mp m with
    | inl q => exact hx q
    | inr q =>
      have q1 := List.mem_singleton.mp q
      rw [q1] at e
      exact absurd (Heap.lt_size e) (Nat.lt_irrefl _)
  unfold Builtin.List.listExtendWith
  refine wpAny_bind (wpAny_typeOf (T := "range") ⟨_, ir, rfl⟩ ?_)
  have f1 : Builtin.List.listSameRef (.ref L) (.ref r) = false := by
    simp [Builtin.List.listSameRef, ne1]
  have f2 : (Value.type "range" == Value.type "list") = false := by decide
  have f3 : (Value.type "range" == Value.type "tuple") = false := by decide
  simp only [f1, f2, f3, Bool.or_false, Bool.false_eq_true, if_false]
  refine wpAny_bind (wpAny_pyIter_longrange ir big (wpAny_bind (wpAny_holding (wpAny_hint_range (n := n) (Heap.get?_push_of_some _ ir) size few ?_))))
  generalize hg : s.heap.push { cls := .type "longrange_iterator", data := .fields #[rawInt a, rawInt (Builtin.Range.rangeSize a b 1), rawInt 1] } = g
  have gi : IsLongIter g s.heap.objs.size (a + ((0 : Nat) : Int) * 1) ((n : Int) - ((0 : Nat) : Int)) 1 := by
    have x0 : a + ((0 : Nat) : Int) * 1 = a := by simp
    have x1 : (n : Int) - ((0 : Nat) : Int) = Builtin.Range.rangeSize a b 1 := by rw [size]; simp
    rw [x0, x1, ← hg]
    exact Heap.get?_push_size _ rfl
  have gk : ∀ x o, s.heap.get? x = some o → g.get? x = some o := fun x o e => by
    rw [← hg]
    exact Heap.get?_push_of_some _ e
  have gL := gk L _ hL
  refine wpAny_ite_split (fun _ => ?_) fun _ => wpAny_pure ⟨plainId_quiet F.plain_extend_loop _, loop _ c _ gi (fun x o _ e => gk x o e) gL⟩
  refine wpAny_bind (wpAny_rule (wpAny_bind ?_))
  show wpAny _ _ (updateSeq L (·.push .none) >>= fun _ => updateSeq L (·.pop)) _ _ _
  refine wpAny_bind (wpAny_updateSeq gL rfl ?_)
  have m1 := Heap.get?_update_self (Obj.mapSeq (·.push Value.none)) gL rfl
  refine wpAny_updateSeq (hz := by seq_fits) m1 rfl (wpAny_pure ⟨plainId_quiet F.plain_extend_loop _, loop _ _ _ ?_ (fun x o hx e => ?_) (Heap.get?_update_self (Obj.mapSeq (·.pop)) m1 rfl)⟩)
  · exact (Heap.get?_update_other _ _ ne2).trans ((Heap.get?_update_other _ _ ne2).trans gi)
  · exact (Heap.get?_update_other _ _ (Ne.symm hx)).trans ((Heap.get?_update_other _ _ (Ne.symm hx)).trans (gk x o e))
theorem call_list_long {Q : Value → Shared → Prop} {r : Addr} {a b : Int} {t u v : Tok} {n : Nat} (calm : A.handled = none) (ir : IsRange s.heap r a b 1 t u v) (big : Builtin.Range.small a b 1 = false) (size : Builtin.Range.rangeSize a b 1 = n) (few : n ≤ 2 ^ 24)
    (goal : ∀ h' tk its c', (∀ x o, s.heap.get? x = some o → h'.get? x = some o) → h'.get? s.heap.objs.size = some { cls := .type "list", dict := none, data := .seq its c', slots := #[] } → ItemsOf (fun i z => ∃ y, z = .int (a + i * 1) y) its n →
      Q (.ref s.heap.objs.size) { s with heap := h', toks := tk }) : wpAny (model prog w) A (call (.type "list") [.ref r]) Q E s := by
  refine callType_codes (Q₁ := fun obj s1 => obj = .ref s.heap.objs.size ∧ s1 = { s with heap := s.heap.push { cls := .type "list", data := .seq #[] } }) F.called_list (F.typeCall_list_1 _) F.entry_list_init (code_list_new _ ⟨rfl, rfl⟩) ?_
  rintro _ _ ⟨rfl, rfl⟩
  generalize hg : s.heap.push { cls := .type "list", data := .seq #[] } = g
  have gk : ∀ x o, s.heap.get? x = some o → g.get? x = some o := fun x o e => by
    rw [← hg]
    exact Heap.get?_push_of_some _ e
  have gL : g.get? s.heap.objs.size = some { cls := .type "list", data := .seq #[] } := by
    rw [← hg]
    exact Heap.get?_push_size _ rfl
  have lt : ∀ x o, s.heap.get? x = some o → x ≠ s.heap.objs.size := fun x o e => Nat.ne_of_lt (Heap.lt_size e)
  generalize hS : s.heap.objs.size = L at gL goal lt
  have nr : r ≠ L := lt r _ ir
  refine ⟨⟨_, gL, rfl⟩, F.args_list_init_2 _ _, ?_⟩
  show wpAny _ _ (do let old ← Builtin.List.listItems (.ref L); Builtin.List.listUpdate (.ref L) (fun _ => #[]); letGo old.toList.reverse; Builtin.List.listExtendWith (.ref L) (.ref r) .none) _ _ _
  unfold Builtin.List.listItems
  refine wpAny_bind (wpAny_bind (wpAny_seqItems gL rfl (wpAny_pure ?_)))
  show wpAny _ _ (updateSeq L (fun _ => #[]) >>= fun _ => letGo (#[] : Array Value).toList.reverse >>= fun _ => Builtin.List.listExtendWith (.ref L) (.ref r) .none) _ _ _
  refine wpAny_bind (wpAny_updateSeq gL rfl (wpAny_bind (wpAny_letGo ?_)))
  have ot : ∀ x o, x ≠ L → g.get? x = some o → (g.update L (Obj.mapSeq (fun _ => (#[] : Array Value)))).get? x = some o := fun x o hx e => (Heap.get?_update_other _ _ (Ne.symm hx)).trans e
  refine extend_long (A := A.in1) calm (ot r _ nr (gk r _ ir)) big size few L .none _ (Heap.get?_update_self (Obj.mapSeq (fun _ => (#[] : Array Value))) gL rfl) fun h' tk its c' kp hl' hi => ?_
  exact ⟨rfl, goal h' tk its c' (fun x o e => kp x o (lt x o e) (ot x o (lt x o e) (gk x o e))) hl' hi⟩
end
section
variable {X : Cx} {e : Expr} {te : L2.St → Hp → (Int → Int → Hp → Prop) → Prop}
def tLstA (te : L2.St → Hp → (Int → Int → Hp → Prop) → Prop) : TE := fun σ H Q => te σ H fun a b H1 => (b - a).toNat ≤ 1000000 ∧ ∀ q, H1 q = none → Q (.ref q) (upd H1 q (.lst (rgV a b)))
/-- list(range(..)) -/
theorem pe_listA {p pos : Pos} (hc : X.calm = true) (hg : Gl X "list") (hm : X.mg "list" = none) (he : PRg X e te) (na : starEach [e] X.env = (false, eval e X.env) :: starEach [] X.env := by rfl) : PE X (.Call (.Name "list" p) [e] [] pos) (tLstA te) := by
  constructor
  intro pins s σ H Q I h
  refine Call_ (ld_blt I hg hm boot_list (PyProof.Rows.callWith_type1 (args_cons (thn (he pins s σ H _ I h) ?_) na) na))
  rintro _ s1 ⟨r, a, b, t, u, v, H1, rfl, ir, J, few, q⟩
  refine args_nil ?_
  have few2 : (b - a).toNat ≤ 2 ^ 24 := Nat.le_trans few (by decide)
  have fin : ∀ h' tk its c', (∀ x o, s1.heap.get? x = some o → h'.get? x = some o) → h'.get? s1.heap.objs.size = some { cls := .type "list", dict := none, data := .seq its c', slots := #[] } → ItemsOf (fun i z => ∃ y, z = .int (a + i * 1) y) its (b - a).toNat →
      EP X pins σ Q (.ref s1.heap.objs.size) { s1 with heap := h', toks := tk } := fun h' tk its c' kp at_ hi => by
    refine ⟨.ref s1.heap.objs.size, upd H1 s1.heap.objs.size (.lst (rgV a b)), J.laid kp (Nat.le_refl _) ?_, rfl, q _ (J.hok.fresh (Nat.le_refl _))⟩
    refine (show ObjOk X.prog X.w _ _ _ (.lst (rgV a b)) from ⟨?_, its.toList, c', vals_rg hi, ?_⟩)
    · rw [rgV_length, sizeLine_eq]
      omega
    · rw [Array.toArray_toList]
      exact at_
  cases sm : Builtin.Range.small a b 1 with
  | true => exact call_list_range (J.ok.hd hc) ir sm (rangeSize_nat a b) few2 fin
  | false => exact call_list_long (J.ok.hd hc) ir sm (rangeSize_nat a b) few2 fin
end
end Sz
/-! x + y by an own __add__ -/
namespace Sz
open PySem PySem.Spec PyProof.Rows L2
/-- what the two classes must have: C its own def, D none, both stand under object alone -/
structure AddK (K : PySem.W.Frag) (C D f : Addr) : Prop where
  ne : C ≠ D
  c1 : ∃ cd, PySem.W.clsIn K C = some cd ∧ cd.mro = [.ref C, .type "object"]
  c2 : ∃ cd, PySem.W.clsIn K D = some cd ∧ cd.mro = [.ref D, .type "object"]
  at_ : PySem.W.findIn K (.ref C) "__add__" = some (some (.ref f))
  fn : PySem.W.isFn K (.ref f) = true
  n1 : PySem.W.findIn K (.ref D) "__add__" = some none
  n2 : PySem.W.findIn K (.ref D) "__radd__" = some none
def mroB (K : PySem.W.Frag) (C : Addr) : Bool := match PySem.W.clsIn K C with
  | some cd => decide (cd.mro = [.ref C, .type "object"])
  | none => false
def addB (K : PySem.W.Frag) (C D : Str) : Bool := decide (He.ga K C ≠ He.ga K D) && (mroB K (He.ga K C) && (mroB K (He.ga K D) && (He.eqO (PySem.W.findIn K (.ref (He.ga K C)) "__add__") (some (some (.ref (He.ma K (He.ga K C) "__add__")))) &&
  (PySem.W.isFn K (.ref (He.ma K (He.ga K C) "__add__")) && (He.eqO (PySem.W.findIn K (.ref (He.ga K D)) "__add__") (some none) && He.eqO (PySem.W.findIn K (.ref (He.ga K D)) "__radd__") (some none))))))
theorem mroB_ok {K : PySem.W.Frag} {C : Addr} (h : mroB K C = true) : ∃ cd, PySem.W.clsIn K C = some cd ∧ cd.mro = [.ref C, .type "object"] := by
  unfold mroB at h
  cases e : PySem.W.clsIn K C with
  | none =>
    rw [e] at h
    cases h
  | some cd =>
    rw [e] at h
    exact ⟨cd, rfl, of_decide_eq_true h⟩
theorem addB_ok {K : PySem.W.Frag} {C D : Str} (h : addB K C D = true) : AddK K (He.ga K C) (He.ga K D) (He.ma K (He.ga K C) "__add__") := by
  obtain ⟨h1, h⟩ := He.ba h
  obtain ⟨h2, h⟩ := He.ba h
  obtain ⟨h3, h⟩ := He.ba h
  obtain ⟨h4, h⟩ := He.ba h
  obtain ⟨h5, h⟩ := He.ba h
  obtain ⟨h6, h7⟩ := He.ba h
  exact ⟨of_decide_eq_true h1, mroB_ok h2, mroB_ok h3, He.eqO_ok h4, h5, He.eqO_ok h6, He.eqO_ok h7⟩
section
variable {K : PySem.W.Frag} {M : Model} {h : Heap} {C D f : Addr}
theorem fills_own (X : K.In h) (a : AddK K C D f) : PySem.W.Looks M h (fillsNumberSlot (.ref C) "add") true := by
  obtain ⟨cd, e1, e2⟩ := a.c1
  have L1 : PySem.W.Looks M h (mroOf (.ref C)) cd.mro := (PySem.W.looks_clsIn X e1).andThen .now
  have L2 : PySem.W.Looks M h (typeLookup (.ref C) "__add__") (some (.ref f)) := PySem.W.looks_findIn X a.at_
  unfold fillsNumberSlot
  refine PySem.W.Looks.andThen L1 ?_
  rw [e2]
  simp only [List.anyM]
  refine PySem.W.Looks.andThen (a := true) ?_ .now
  refine PySem.W.Looks.andThen (a := true) (PySem.W.Looks.andThen L2 ?_) .now
  exact .now
theorem fills_none (X : K.In h) (a : AddK K C D f) : PySem.W.Looks M h (fillsNumberSlot (.ref D) "add") false := by
  obtain ⟨cd, e1, e2⟩ := a.c2
  have L1 : PySem.W.Looks M h (mroOf (.ref D)) cd.mro := (PySem.W.looks_clsIn X e1).andThen .now
  have L2 : PySem.W.Looks M h (typeLookup (.ref D) "__add__") none := PySem.W.looks_findIn X a.n1
  have L3 : PySem.W.Looks M h (typeLookup (.ref D) "__radd__") none := PySem.W.looks_findIn X a.n2
  have L4 : PySem.W.Looks M h (typeLookup (.type "object") "__add__") none := .of_pure (by rw [typeLookup_type, builtinLookup_eq_fast]; kernel_rfl)
  have L5 : PySem.W.Looks M h (typeLookup (.type "object") "__radd__") none := .of_pure (by rw [typeLookup_type, builtinLookup_eq_fast]; kernel_rfl)
  unfold fillsNumberSlot
  refine PySem.W.Looks.andThen L1 ?_
  rw [e2]
  simp only [List.anyM]
  refine PySem.W.Looks.andThen (a := false) ?_ ?_
  · refine PySem.W.Looks.andThen (a := false) (PySem.W.Looks.andThen L2 .now) ?_
    exact PySem.W.Looks.andThen (a := false) (PySem.W.Looks.andThen L3 .now) .now
  · refine PySem.W.Looks.andThen (a := false) ?_ .now
    exact PySem.W.Looks.andThen L4 (PySem.W.Looks.andThen L5 .now)
end
section
variable {X : Cx} {CX : CXT} {k : Nat} {C D : Str} {ps : List Str} {sp : Sp} {E : XK}
/-- x + y: x an instance of C with its own __add__, y one of D with none -/
theorem op_addO (a : AddK X.K (He.ga X.K C) (He.ga X.K D) (He.ma X.K (He.ga X.K C) "__add__")) (G : PromM X.prog X.w X.K X.mg X.base CX k C "__add__" ps sp) (hr : Room k X.A) (hx : Passes CX X E) :
    OpR X (binaryOp .Add) (fun x y H Q => ∃ p q dx fs dy gs, x = .ref p ∧ y = .ref q ∧ H p = some (.ins (He.ga X.K C) dx fs) ∧ H q = some (.ins (He.ga X.K D) dy gs) ∧ sp [.ref p, .ref q] H Q E) := by
  intro pins s σ H x y v u Q I rx ry h
  obtain ⟨p, q, dx, fs, dy, gs, rfl, rfl, hp, hq, h⟩ := h
  obtain rfl : v = Value.ref p := rx
  obtain rfl : u = Value.ref q := ry
  obtain ⟨m1, O1, _⟩ := ins_get I.hok hp
  obtain ⟨od1, J1, _⟩ := O1.look
  obtain ⟨m2, O2, _⟩ := ins_get I.hok hq
  obtain ⟨od2, J2, _⟩ := O2.look
  obtain ⟨fd, F, b⟩ := G.ex
  have ne : (Value.ref (He.ga X.K C) == Value.ref (He.ga X.K D)) = false := by
    rw [beq_eq_false_iff_ne]
    exact fun z => a.ne (by injection z)
  unfold binaryOp
  refine wpAny_holding ?_
  show wpAny _ _ (binaryOp1 "add" (.ref p) (.ref q) >>= _) _ _ s
  refine wpAny_bind ?_
  unfold binaryOp1
  refine wpAny_bind (J1.type.here (wpAny_bind (J2.type.here (wpAny_bind ((fills_own I.kIn a).here ?_)))))
  rw [ne]
  refine wpAny_bind ((fills_none I.kIn a).here ?_)
  simp only [Bool.and_false, Bool.false_and, Bool.false_eq_true, if_false, if_true]
  refine wpAny_bind (wpAny_pure ?_)
  simp only [Bool.false_eq_true, if_false]
  unfold tryMethod callSpecial? specialOf
  refine wpAny_bind (wpAny_bind (wpAny_bind (wpAny_bind (J1.type.here ((PySem.W.looks_findIn I.kIn a.at_).here ?_)))))
  refine wpAny_holding (wpAny_bind ((PySem.W.bind_fn I.kIn (.ref p) (beq_iff_eq.mp a.fn)).here ?_))
  refine wpAny_bind (thn (run_fn (us := [.ref p, .ref q]) (vs := [.ref p, .ref q]) F hr b .nil hx I (.cons rfl (.cons rfl .nil)) h) fun v s' hv => wpAny_pure ?_)
  have fin : wpAny (model X.prog X.w) X.A (pure (some v) : Sem (Option Value)) (fun r s2 => wpAny (model X.prog X.w) X.A (match r with
      | some v => pure v
      | _ => do
        let ty ← typeOf (Value.ref p)
        let sl ← seqSlot? ty (Str.ofString "__add__")
        match sl with
          | some f => do
            rule "binop.sequence-concat"
            call f [Value.ref p, Value.ref q]
          | _ => binopTypeError "+" (Value.ref p) (Value.ref q)) (EP X pins σ Q) X.xe s2) X.xe s' := wpAny_pure (wpAny_pure hv)
  obtain ⟨x, H', I', r, q'⟩ := hv
  cases x with
  | non => cases (show v = Value.none from r); exact wpAny_pure fin
  | bl c => cases (show v = Value.bool c from r); exact wpAny_pure fin
  | int i => obtain ⟨t, rfl⟩ := (show ∃ t, v = Value.int i t from r); exact wpAny_pure fin
  | str i => obtain ⟨t, rfl⟩ := (show ∃ t, v = Value.str i t from r); exact wpAny_pure fin
  | byt i => obtain ⟨t, rfl⟩ := (show ∃ t, v = Value.bytes i t from r); exact wpAny_pure fin
  | flt i => obtain ⟨t, rfl⟩ := (show ∃ t, v = Value.float i t from r); exact wpAny_pure fin
  | ref a => cases (show v = Value.ref a from r); exact wpAny_pure fin
  | ty n => cases (show v = Value.type n from r); exact wpAny_pure fin
end
end Sz
/-! texts: what is joined, and its repr -/
namespace Sz
open PySem PySem.Spec PyProof.Rows L2
def Signs (x : Str) : Prop := ∀ c ∈ x.cps.toList, c < 16 ^ 8
theorem signs_of (s : String) : Signs (Str.ofString s) := fun c hc => by
  rw [Str.ofString_eq_toList] at hc
  have hc : c ∈ s.toList.map Char.toNat := by simpa using hc
  obtain ⟨d, _, rfl⟩ := List.mem_map.mp hc
  have h := d.valid
  have h2 : d.toNat < 1114112 := by
    rcases h with h | h
    · exact Nat.lt_trans h (by decide)
    · exact h.2
  exact Nat.lt_of_lt_of_le h2 (by decide)
theorem joinL_mem {sep : List Nat} {c : Nat} : ∀ {l : List (List Nat)}, c ∈ TL.joinL sep l → c ∈ sep ∨ ∃ y ∈ l, c ∈ y
  | [], h => by simp [TL.joinL] at h
  | [p], h => .inr ⟨p, by simp, h⟩
  | p :: q :: r, h => by
    rcases List.mem_append.mp (show c ∈ p ++ (sep ++ TL.joinL sep (q :: r)) from h) with h | h
    · exact .inr ⟨p, by simp, h⟩
    · rcases List.mem_append.mp h with h | h
      · exact .inl h
      · rcases joinL_mem h with h | ⟨y, hy, hc⟩
        · exact .inl h
        · exact .inr ⟨y, List.mem_cons_of_mem _ hy, hc⟩
theorem joinL_len {sep : List Nat} : ∀ {l : List (List Nat)}, (TL.joinL sep l).length ≤ (l.map (·.length)).sum + l.length * sep.length
  | [] => by simp [TL.joinL]
  | [p] => by simp [TL.joinL]
  | p :: q :: r => by
    have ih := joinL_len (sep := sep) (l := q :: r)
    show (p ++ (sep ++ TL.joinL sep (q :: r))).length ≤ _
    rw [List.length_append, List.length_append]
    simp only [List.map_cons, List.sum_cons, List.length_cons, Nat.add_mul, Nat.one_mul] at ih ⊢
    omega
theorem join_signs {sep : Str} {ys : List Str} (h : Signs sep) (h2 : ∀ y ∈ ys, Signs y) : Signs (Txt.join sep ys) := fun c hc => by
  rw [TL.join_eq] at hc
  have hc : c ∈ TL.tl (Str.join sep ys) := hc
  rw [TL.tl_join] at hc
  rcases joinL_mem hc with z | ⟨y, hy, z⟩
  · exact h c z
  · obtain ⟨y', hy', rfl⟩ := List.mem_map.mp hy
    exact h2 y' hy' c z
theorem join_len {sep : Str} {ys : List Str} : (Txt.join sep ys).length ≤ (ys.map (·.length)).sum + ys.length * sep.length := by
  have e : ∀ x : Str, x.length = (TL.tl x).length := fun x => by
    show x.cps.size = x.cps.toList.length
    simp
  rw [TL.join_eq, e, TL.tl_join]
  have := joinL_len (sep := TL.tl sep) (l := ys.map TL.tl)
  rw [List.map_map, List.length_map] at this
  have e2 : ys.map ((·.length) ∘ TL.tl) = ys.map (·.length) := by
    apply List.map_congr_left
    intro y _
    exact (e y).symm
  rw [e2] at this
  rw [e sep]
  exact this
theorem repr_fits {x : Str} (h : Signs x) (hl : x.length ≤ 100000) : (reprText x).length ≤ sizeLine := by
  have := PySem.StrLaws.reprText_len x h
  rw [sizeLine_eq]
  omega
/-- repr of a text -/
theorem cr_reprS {X : Cx} : CallR X (.builtin "repr") (fun xs H Q => ∃ y : Str, xs = [.str y] ∧ (reprText y).length ≤ sizeLine ∧ Q (.str (reprText y)) H) := by
  intro pins s σ H xs us Q I r h
  obtain ⟨y, rfl, hz, q⟩ := h
  obtain ⟨u, rfl, ru⟩ := vals1 r
  obtain ⟨t, rfl⟩ := (show ∃ t, u = Value.str y t from ru)
  exact PySem.P.repr_of_str ⟨.str _, H, I.tok _, ⟨_, rfl⟩, q⟩ hz
end Sz
/-! len(x) by an own __len__ -/
namespace Sz
open PySem PySem.Spec PyProof.Rows L2
section
variable {X : Cx} {CX : CXT} {k : Nat} {C : Str} {ps : List Str} {sp : Sp} {E : XK}
theorem cr_lenO (G : PromM X.prog X.w X.K X.mg X.base CX k C "__len__" ps sp) (hr : Room (k + 1) X.A) (hx : Passes CX X E) :
    CallR X (.builtin "len") (fun xs H Q => ∃ p dx fs, xs = [.ref p] ∧ H p = some (.ins (He.ga X.K C) dx fs) ∧ sp [.ref p] H (fun v H' => ∃ n : Int, v = .int n ∧ 0 ≤ n ∧ n < 2 ^ 63 ∧ Q (.int n) H') E) := by
  intro pins s σ H xs us Q I r h
  obtain ⟨p, dx, fs, rfl, hp, h⟩ := h
  obtain ⟨u, rfl, ru⟩ := vals1 r
  obtain rfl : u = Value.ref p := ru
  obtain ⟨m1, O1, _⟩ := ins_get I.hok hp
  obtain ⟨od1, J1, _⟩ := O1.look
  obtain ⟨fd, F, b⟩ := G.ex
  have hl : ([Value.ref p] ++ ([] : List Value)).length = ps.length := by
    have := F.len _ _ _ _ h
    simpa using this
  refine Calls.call_function_entry kind_len plain_len entry_len (args_len1 _) ?_
  unfold Builtin.«len»
  refine wpAny_bind (m := oneArg "len" _) (wpAny_pure ?_)
  refine wpAny_bind (m := callSpecial? (.ref p) (Str.ofString "__len__")) ?_
  unfold callSpecial? specialOf
  refine wpAny_bind (wpAny_bind (J1.type.here ((PySem.W.looks_findIn I.kIn G.me.at_).here ?_)))
  refine wpAny_holding (wpAny_bind ((PySem.W.bind_fn I.kIn (.ref p) (beq_iff_eq.mp G.me.fn)).here (wpAny_bind ?_)))
  have vv : Vals [V.ref p] [Value.ref p] := .cons rfl .nil
  have bb : BindsTo s fd ⟨[Value.ref p], []⟩ (ps.zip [Value.ref p]) := b s [Value.ref p] I.kIn hl
  refine wpAny_call (codeAny_mono (F.run X.A.in1 X.stack s H ⟨[Value.ref p], []⟩ [Value.ref p] [V.ref p] _ E hr.in1 I.env0.in1 bb vv h) fun rr s' hq => ?_)
  cases rr with
  | error e => exact hx pins σ H s e s' I hq
  | ok fl =>
    cases fl with
    | ret v =>
      obtain ⟨v', H', I', rv, n, rfl, n0, n1, q⟩ := I.after hq
      obtain ⟨t, rfl⟩ := (show ∃ t, v = Value.int n t from rv)
      refine wpAny_pure ?_
      refine wpAny_bind (wpAny_holding (wpAny_pure ?_))
      refine wpAny_bind (wpAny_letGo ?_)
      show wpAny _ _ (if n < 0 then _ else _) _ _ _
      rw [if_neg (by omega)]
      show wpAny _ _ (if n ≥ 2 ^ 63 then _ else _) _ _ _
      rw [if_neg (by omega)]
      exact wpAny_bind (wpAny_mkInt (wpAny_pure ⟨_, rfl, .int n, H', I'.tok _, ⟨_, rfl⟩, q⟩))
    | next => exact False.elim hq
    | brk => exact False.elim hq
    | cont => exact False.elim hq
end
end Sz
namespace Sz
/-! ### sizes rise with the length -/
theorem totF_lt {b n m : Int} (hb : 2 ≤ b) (hn : 0 ≤ n) (h : n < m) : totF b n < totF b m := by
  have s := (totF_is hb hn).tot
  have t := (totF_is (b := b) (n := m) hb (by omega)).tot
  by_cases c : totF b n < totF b m
  · exact c
  · have l := fig_lip hb (show totF b m ≤ totF b n by omega) t s
    omega
theorem totF_mono {b n m : Int} (hb : 2 ≤ b) (hn : 0 ≤ n) (h : n ≤ m) : totF b n ≤ totF b m := by
  by_cases c : n = m
  · rw [c]
    exact Int.le_refl _
  · exact Int.le_of_lt (totF_lt hb hn (by omega))
theorem beg_mono {n k m : Int} (hm : 1 ≤ m) (h : n ≤ k) : beg n m ≤ beg k m := Int.ediv_le_ediv (by omega) (by omega)
/-- n = m q + r -/
theorem beg_parts {n m : Int} (hm : 1 ≤ m) : beg n m = n / m + (if 0 < n % m then 1 else 0) := by
  unfold beg
  have e := Int.mul_ediv_add_emod n m
  have r0 := Int.emod_nonneg n (show m ≠ 0 by omega)
  have r1 := Int.emod_lt_of_pos n (show 0 < m by omega)
  split
  · have e2 : n + m - 1 = (n % m - 1) + m * (n / m + 1) := by rw [Int.mul_add, Int.mul_one]; omega
    rw [e2, Int.add_mul_ediv_left _ _ (by omega), Int.ediv_eq_zero_of_lt (by omega) (by omega)]
    omega
  · have e2 : n + m - 1 = (m - 1) + m * (n / m) := by omega
    rw [e2, Int.add_mul_ediv_left _ _ (by omega), Int.ediv_eq_zero_of_lt (by omega) (by omega)]
    omega
theorem pieces_step {b m c n : Int} (hb : 2 ≤ b) (h : (Wr.pieces m c).ok) (hn : 0 ≤ n) : (Wr.pieces m c).gr b n ≤ (Wr.pieces m c).gr b (n + 1) := by
  simp only [Wr.ok] at h
  simp only [Wr.gr]
  have r0 := Int.emod_nonneg n (show m ≠ 0 by omega)
  have r1 := Int.emod_lt_of_pos n (show 0 < m by omega)
  have e := Int.mul_ediv_add_emod n m
  by_cases z : n % m + 1 < m
  · have d : (n + 1) / m = n / m := by
      have e2 : n + 1 = (n % m + 1) + m * (n / m) := by omega
      rw [e2, Int.add_mul_ediv_left _ _ (by omega), Int.ediv_eq_zero_of_lt (by omega) z]
      have e3 : ((n % m + 1) + m * (n / m)) = n + 1 := by omega
      omega
    have r : (n + 1) % m = n % m + 1 := by
      have e3 := Int.mul_ediv_add_emod (n + 1) m
      rw [d] at e3
      omega
    rw [d, r, if_pos (show 0 < n % m + 1 by omega)]
    have f0 := figF_pos (b := b) (n := n % m + 1) hb
    have f1 := figF_mono (b := b) (n := n % m) (m := n % m + 1) hb (by omega)
    split <;> omega
  · have rm : n % m = m - 1 := by omega
    have e2 : n + 1 = 0 + m * (n / m + 1) := by rw [Int.mul_add, Int.mul_one]; omega
    have d : (n + 1) / m = n / m + 1 := by
      rw [e2, Int.add_mul_ediv_left _ _ (by omega), Int.zero_ediv]
      omega
    have r : (n + 1) % m = 0 := by
      have e3 := Int.mul_ediv_add_emod (n + 1) m
      rw [d, Int.mul_add, Int.mul_one] at e3
      omega
    rw [d, r, rm, if_neg (show ¬ (0 : Int) < 0 by omega), Int.add_mul, Int.one_mul]
    have f0 := figF_pos (b := b) (n := m) hb
    have f1 := figF_mono (b := b) (n := m - 1) (m := m) hb (by omega)
    split <;> omega
theorem step_le {f : Int → Int} (h : ∀ n, 0 ≤ n → f n ≤ f (n + 1)) {n : Int} (hn : 0 ≤ n) : ∀ k : Nat, f n ≤ f (n + k)
  | 0 => by simp
  | k + 1 => by
    have ih := step_le h hn k
    have := h (n + k) (by omega)
    have e : n + ((k + 1 : Nat) : Int) = n + k + 1 := by omega
    rw [e]
    omega
theorem gr_mono {b : Int} {a : Wr} (hb : 2 ≤ b) (h : a.ok) {n k : Int} (hn : 0 ≤ n) (hk : n ≤ k) : a.gr b n ≤ a.gr b k := by
  cases a with
  | plus c => simp only [Wr.gr]; omega
  | told c =>
    simp only [Wr.gr]
    have := figF_mono (b := b) hb hk
    omega
  | whole c =>
    simp only [Wr.ok] at h
    exact totF_mono hb (by omega) (by omega)
  | pieces m c =>
    have := step_le (f := (Wr.pieces m c).gr b) (fun n hn => pieces_step hb h hn) hn (k - n).toNat
    have e : n + ((k - n).toNat : Int) = k := by omega
    rw [e] at this
    exact this
  | cut m c =>
    simp only [Wr.ok] at h
    simp only [Wr.gr]
    have := Int.mul_le_mul_of_nonneg_right (beg_mono h.1 hk) (show 0 ≤ c by omega)
    omega
  | coded m c =>
    simp only [Wr.ok] at h
    exact Int.mul_le_mul_of_nonneg_right (beg_mono h.1 hk) (show 0 ≤ c by omega)
  | filled m =>
    simp only [Wr.ok] at h
    exact Int.mul_le_mul_of_nonneg_right (beg_mono h.1 hk) (show 0 ≤ m by omega)
/-- a size is no less than its length -/
theorem gr_ge {b : Int} {a : Wr} (hb : 2 ≤ b) (h : a.ok) {n : Int} (hn : 0 ≤ n) : n ≤ a.gr b n := by
  have bg : ∀ m : Int, 1 ≤ m → n ≤ beg n m * m := fun m hm => by
    have e := Int.mul_ediv_add_emod n m
    have r0 := Int.emod_nonneg n (show m ≠ 0 by omega)
    have r1 := Int.emod_lt_of_pos n (show 0 < m by omega)
    rw [beg_parts hm, Int.add_mul]
    have c := Int.mul_comm m (n / m)
    split
    · rw [Int.one_mul]
      omega
    · rw [Int.zero_mul]
      omega
  cases a with
  | plus c =>
    simp only [Wr.ok] at h
    simp only [Wr.gr]
    omega
  | told c =>
    simp only [Wr.ok] at h
    simp only [Wr.gr]
    have := figF_pos (b := b) (n := n) hb
    omega
  | whole c =>
    simp only [Wr.ok] at h
    simp only [Wr.gr]
    have := isTot_pos (totF_is (b := b) (n := n + c) hb (by omega)).tot
    omega
  | pieces m c =>
    simp only [Wr.ok] at h
    simp only [Wr.gr]
    have e := Int.mul_ediv_add_emod n m
    have r0 := Int.emod_nonneg n (show m ≠ 0 by omega)
    have q0 := Int.ediv_nonneg hn (show 0 ≤ m by omega)
    have f0 := figF_pos (b := b) (n := m) hb
    have f1 := figF_pos (b := b) (n := n % m) hb
    have p := Int.mul_le_mul_of_nonneg_left (show m ≤ m + c + figF b m by omega) q0
    have c := Int.mul_comm m (n / m)
    split <;> omega
  | cut m c =>
    simp only [Wr.ok] at h
    simp only [Wr.gr]
    have := Int.mul_nonneg (beg_le hn h.1).2 (show 0 ≤ c by omega)
    omega
  | coded m c =>
    simp only [Wr.ok] at h
    simp only [Wr.gr]
    have h1 := bg m h.1
    have := Int.mul_le_mul_of_nonneg_left (show m ≤ c by omega) (beg_le hn h.1).2
    omega
  | filled m =>
    simp only [Wr.ok] at h
    exact bg m h.1
end Sz
/-! data that can be shown and compared: how deep, how long the text -/
namespace Sz
open PySem PySem.Spec PyProof.Rows L2
/-- can be shown: at most so deep, at most so long -/
structure Sho (d : PyData) (k m : Nat) : Prop where
  able : d.showable = true
  nod : d.hasDict = false
  deep : d.depth ≤ k
  long : d.shown.length ≤ m
theorem Sho.mono {d : PyData} {k m k' m' : Nat} (h : Sho d k m) (hk : k ≤ k') (hm : m ≤ m') : Sho d k' m' := ⟨h.able, h.nod, Nat.le_trans h.deep hk, Nat.le_trans h.long hm⟩
theorem sho_int {i : Int} (k : Nat) (hk : 0 < k) (hk2 : k ≤ 500) (h : i.natAbs < 10 ^ k) : Sho (.int i) 0 (k + 1) := by
  refine ⟨?_, rfl, Nat.le_refl _, ?_⟩
  · have h2 : i.natAbs < 2 ^ 1800 := Nat.lt_of_lt_of_le h (Nat.le_trans (Nat.pow_le_pow_right (by decide) hk2) (by decide))
    show decide (i.natAbs.log2 < 1920) = true
    exact decide_eq_true (Nat.lt_of_lt_of_le (PySem.Flt.log2_lt_of (by decide) h2) (by decide))
  · have h1 := int_text_length_le10 hk h
    have e : (Str.ofString (toString i)).length = (toString i : String).length := PySem.ofString_length _
    show (Str.ofString (toString i)).length ≤ k + 1
    omega
theorem sho_bool (b : Bool) : Sho (.bool b) 0 5 := by cases b <;> exact ⟨rfl, rfl, Nat.le_refl _, by decide⟩
theorem sho_none : Sho .none 0 4 := ⟨rfl, rfl, Nat.le_refl _, by decide⟩
theorem sho_all {k m : Nat} : ∀ ds : List PyData, (∀ d ∈ ds, Sho d k m) → PyData.showableAll ds = true ∧ PyData.hasDictAll ds = false ∧ PyData.depthAll ds ≤ k ∧ ((PyData.shownAll ds).map (·.length)).sum ≤ m * ds.length ∧ (PyData.shownAll ds).length = ds.length
  | [], _ => ⟨rfl, rfl, Nat.zero_le _, by simp [PyData.shownAll], rfl⟩
  | d :: ds, h => by
    obtain ⟨h1, h2, h3, h4, h5⟩ := sho_all ds fun y hy => h y (List.mem_cons_of_mem _ hy)
    obtain ⟨g1, g2, g3, g4⟩ := h d (List.mem_cons_self ..)
    refine ⟨?_, ?_, ?_, ?_, ?_⟩
    · show (d.showable && PyData.showableAll ds) = true
      rw [g1, h1]
      rfl
    · show (d.hasDict || PyData.hasDictAll ds) = false
      rw [g2, h2]
      rfl
    · show max d.depth (PyData.depthAll ds) ≤ k
      omega
    · show ((d.shown :: PyData.shownAll ds).map (·.length)).sum ≤ m * (ds.length + 1)
      rw [List.map_cons, List.sum_cons, Nat.mul_add, Nat.mul_one]
      omega
    · show (PyData.shownAll ds).length + 1 = ds.length + 1
      rw [h5]
theorem sho_tuple {k m : Nat} {ds : List PyData} (h : ∀ d ∈ ds, Sho d k m) : Sho (.tuple ds) (k + 1) ((m + 2) * ds.length + 4) := by
  obtain ⟨h1, h2, h3, h4, h5⟩ := sho_all ds h
  refine ⟨h1, h2, ?_, ?_⟩
  · show PyData.depthAll ds + 1 ≤ k + 1
    omega
  · show (tupleText (PyData.shownAll ds)).length ≤ _
    have h6 := tupleText_len_le (PyData.shownAll ds)
    rw [h5] at h6
    rw [Nat.add_mul]
    omega
theorem sho_list {k m : Nat} {ds : List PyData} (h : ∀ d ∈ ds, Sho d k m) : Sho (.list ds) (k + 1) ((m + 2) * ds.length + 4) := by
  obtain ⟨h1, h2, h3, h4, h5⟩ := sho_all ds h
  refine ⟨h1, h2, ?_, ?_⟩
  · show PyData.depthAll ds + 1 ≤ k + 1
    omega
  · show (listText (PyData.shownAll ds)).length ≤ _
    have h6 := listText_len_le (PyData.shownAll ds)
    rw [h5] at h6
    rw [Nat.add_mul]
    omega
/-! what can be laid and compared -/
structure Shp (d : PyData) (k : Nat) : Prop where
  lay : d.canLay0 = true
  deep : d.depth ≤ k
theorem Shp.mono {d : PyData} {k k' : Nat} (h : Shp d k) (hk : k ≤ k') : Shp d k' := ⟨h.lay, Nat.le_trans h.deep hk⟩
theorem Shp.shaped {d : PyData} {k : Nat} (h : Shp d k) (hk : k ≤ 30 := by decide) : SeqAt.shaped d = true := by
  have h2 := h.deep
  simp [SeqAt.shaped, h.lay]
  omega
theorem shp_int (i : Int) : Shp (.int i) 0 := ⟨rfl, Nat.le_refl _⟩
theorem shp_str {s : Str} (h : PyData.strOk s = true) : Shp (.str s) 0 := ⟨h, Nat.le_refl _⟩
theorem shp_bool (b : Bool) : Shp (.bool b) 0 := ⟨rfl, Nat.le_refl _⟩
theorem shp_none : Shp .none 0 := ⟨rfl, Nat.le_refl _⟩
theorem shp_all {k : Nat} : ∀ ds : List PyData, (∀ d ∈ ds, Shp d k) → PyData.canLayAll0 ds = true ∧ PyData.depthAll ds ≤ k
  | [], _ => ⟨rfl, Nat.zero_le _⟩
  | d :: ds, h => by
    obtain ⟨h1, h2⟩ := shp_all ds fun y hy => h y (List.mem_cons_of_mem _ hy)
    obtain ⟨g1, g2⟩ := h d (List.mem_cons_self ..)
    refine ⟨?_, ?_⟩
    · show (d.canLay0 && PyData.canLayAll0 ds) = true
      rw [g1, h1]
      rfl
    · show max d.depth (PyData.depthAll ds) ≤ k
      omega
theorem shp_tuple {k : Nat} {ds : List PyData} (h : ∀ d ∈ ds, Shp d k) : Shp (.tuple ds) (k + 1) := by
  obtain ⟨h1, h2⟩ := shp_all ds h
  refine ⟨h1, ?_⟩
  show PyData.depthAll ds + 1 ≤ k + 1
  omega
theorem shp_list {k : Nat} {ds : List PyData} (h : ∀ d ∈ ds, Shp d k) : Shp (.list ds) (k + 1) := by
  obtain ⟨h1, h2⟩ := shp_all ds h
  refine ⟨h1, ?_⟩
  show PyData.depthAll ds + 1 ≤ k + 1
  omega
theorem shp_ints_t (xs : List Int) : Shp (.tuple (xs.map PyData.int)) 1 := shp_tuple (k := 0) fun d hd => by
  obtain ⟨i, _, rfl⟩ := List.mem_map.mp hd
  exact shp_int i
theorem shp_ints_l (xs : List Int) : Shp (.list (xs.map PyData.int)) 1 := shp_list (k := 0) fun d hd => by
  obtain ⟨i, _, rfl⟩ := List.mem_map.mp hd
  exact shp_int i
end Sz
/-! str(x), f"{x}" by an own __str__; x == y, x != y by an own __eq__ -/
namespace Sz
open PySem PySem.Spec PyProof.Rows L2
/-- what the class must have -/
structure StrK (K : PySem.W.Frag) (C : Addr) : Prop where
  fmt : PySem.W.findIn K (.ref C) "__format__" = some (some (.builtin "object.__format__"))
  mro : PySem.W.mroIn K C (.type "object") = some true
  ne : PySem.W.findIn K (.ref C) "__ne__" = some (some (.builtin "object.__ne__"))
def strB (K : PySem.W.Frag) (C : Addr) : Bool := He.eqO (PySem.W.findIn K (.ref C) "__format__") (some (some (.builtin "object.__format__"))) && (decide (PySem.W.mroIn K C (.type "object") = some true) && He.eqO (PySem.W.findIn K (.ref C) "__ne__") (some (some (.builtin "object.__ne__"))))
theorem strB_ok {K : PySem.W.Frag} {C : Addr} (h : strB K C = true) : StrK K C := by
  obtain ⟨h1, h⟩ := He.ba h
  obtain ⟨h2, h3⟩ := He.ba h
  exact ⟨He.eqO_ok h1, of_decide_eq_true h2, He.eqO_ok h3⟩
section
variable {X : Cx} {CX : CXT} {k n : Nat} {C : Str} {ps : List Str} {sp : Sp} {E : XK}
/-- the own method of an instance is called somewhere below the running body -/
theorem run_own {m : Str} (G : PromM X.prog X.w X.K X.mg X.base CX k C m ps sp) (hx : Passes CX X E) {A : Around} (sb : L2.Sub X k A) {pins : List (Addr × Obj)} {s : Shared} {σ : L2.St} {H : Hp} {vs : List V} {us : List Value} {Q : VK}
    (I : Inv X pins σ H s) (r : Vals vs us) (h : sp vs H Q E) : wpAny (model X.prog X.w) A (call (.ref (He.ma X.K (He.ga X.K C) m)) us) (EP X pins σ Q) X.xe s := by
  obtain ⟨fd, F, b⟩ := G.ex
  have hl := F.len _ _ _ _ h
  have e0 : Env0 X.prog X.w X.K X.mg X.base A X.stack s H := by
    have e := I.env0
    exact ⟨by rw [sb.fr]; exact e.frames, e.mod, e.bs, e.bsz, e.funs, e.frf, e.hok, e.bare⟩
  have hl2 : us.length = ps.length := by rw [← hl]; exact r.length.symm
  refine wpAny_call (codeAny_mono (F.run A X.stack s H ⟨us, []⟩ us vs _ E sb.room e0 (by
    have := b s us I.kIn (by simpa using hl2)
    simpa using this) r h) fun rr s' hq => ?_)
  cases rr with
  | error e => exact hx pins σ H s e s' I hq
  | ok fl =>
    cases fl with
    | ret v =>
      obtain ⟨z, H', I', rz, q⟩ := I.after hq
      exact ⟨z, H', I', rz, q⟩
    | next => exact False.elim hq
    | brk => exact False.elim hq
    | cont => exact False.elim hq
theorem strBack_of {pins : List (Addr × Obj)} {σ : L2.St} {Q : VK} {v : Value} {s' : Shared} (h : EP X pins σ (fun v H => ∃ y : Str, v = .str y ∧ Q (.str y) H) v s') : PySem.W.StrBack (EP X pins σ Q) v s' := by
  obtain ⟨z, H', I', rz, y, rfl, q⟩ := h
  obtain ⟨t, rfl⟩ := rz
  exact ⟨.str y, H', I', ⟨t, rfl⟩, q⟩
/-- f"{x}" by an own __str__ -/
def tFmtO (C : Addr) (sp : Sp) (E : XK) (te : TE) : TE := fun σ H Q => te σ H fun x H1 => ∃ p dx fs, x = .ref p ∧ H1 p = some (.ins C dx fs) ∧ sp [.ref p] H1 (fun v H2 => ∃ y : Str, v = .str y ∧ Q (.str y) H2) E
theorem pe_fmtO {e : Expr} {te : TE} {pos : Pos} (a : StrK X.K (He.ga X.K C)) (G : PromM X.prog X.w X.K X.mg X.base CX k C "__str__" ps sp) (hr : Room (k + 1) X.A) (hx : Passes CX X E) (he : PE X e te) :
    PE X (.FormattedValue e (-1) none pos) (tFmtO (He.ga X.K C) sp E te) := by
  refine ⟨fun pins s σ H Q I h => ?_⟩
  refine wpAny_FormattedValue_plain (thn (he.run pins s σ H _ I h) fun v s1 hv => ?_)
  obtain ⟨x, H1, I1, r1, p, dx, fs, rfl, hp, q⟩ := hv
  obtain rfl : v = Value.ref p := r1
  obtain ⟨m1, O1, _⟩ := ins_get I1.hok hp
  obtain ⟨od1, J1, _⟩ := O1.look
  refine PySem.W.kfo_fieldS hr.in1.units0 I1.kIn J1 a.fmt a.mro G.me.at_ G.me.fn ?_
  exact wpAny_mono (run_own G hx (A := X.A.in1) ⟨hr.in1, rfl⟩ (vs := [.ref p]) (us := [.ref p]) (I1.tok _) (.cons rfl .nil) q) (fun v s' z => strBack_of z) fun _ _ z => z
/-- str(x) by an own __str__ -/
theorem cr_strO (G : PromM X.prog X.w X.K X.mg X.base CX k C "__str__" ps sp) (hr : Room (k + 2) X.A) (hx : Passes CX X E) :
    CallR X (.type "str") (fun xs H Q => ∃ p dx fs, xs = [.ref p] ∧ H p = some (.ins (He.ga X.K C) dx fs) ∧ sp [.ref p] H (fun v H2 => ∃ y : Str, v = .str y ∧ Q (.str y) H2) E) := by
  intro pins s σ H xs us Q I r h
  obtain ⟨p, dx, fs, rfl, hp, h⟩ := h
  obtain ⟨u, rfl, ru⟩ := vals1 r
  obtain rfl : u = Value.ref p := ru
  obtain ⟨m1, O1, _⟩ := ins_get I.hok hp
  obtain ⟨od1, J1, _⟩ := O1.look
  refine callType_codes (T := "str") (Bi := Builtin.«object.__init__») (Q₁ := fun r s₁ => ∃ y u, r = .str y u ∧ EP X pins σ Q r s₁) PySem.F.called_str (PySem.F.typeCall_str_1 _) PySem.F.entry_object_init ?_ ?_
  · refine codeAny_of_tree ?_
    show wpAny _ X.A.in1.in1 (do checkBuiltinCall "str.__new__" ⟨[.type "str", .ref p], []⟩; again (.builtin "str.__new__" ⟨[.type "str", .ref p], []⟩)) _ _ s
    refine wpAny_bind (wpAny_of_eq (PySem.F.newCall_str_1 _) (wpAny_pure ⟨plainId_quiet (by decide +kernel) _, codeAny_builtin PySem.F.entry_str_new ?_⟩))
    rw [Around.under_plainId (by decide +kernel) _]
    rw [str_new_tree]
    refine wpAny_bind (wpAny_pure ?_)
    refine wpAny_bind (wpAny_of_eq isSubtype_str_str ?_)
    have key : wpAny (model X.prog X.w) X.A.in1.in1 (PySem.Builtin.Str.strOf (.ref p)) (fun r s₁ => ∃ y u, r = .str y u ∧ EP X pins σ Q r s₁) X.xe s := by
      unfold PySem.Builtin.Str.strOf
      rw [show PySem.Builtin.Str.isExactStr (.ref p) = false from rfl]
      refine wpAny_bind (m := cRoomFor _ _) (wpAny_cRoomFor hr.in1.in1.units0 ?_)
      refine wpAny_bind (m := callSpecial? (.ref p) (Str.ofString "__str__")) (PySem.W.special_fn I.kIn J1 G.me.at_ (beq_iff_eq.mp G.me.fn) (wpAny_mono (run_own G hx (A := X.A.in1.in1) ⟨hr.in1.in1, rfl⟩ (vs := [.ref p]) (us := [.ref p]) I (.cons rfl .nil) h) (fun v s' z => ?_) fun _ _ y => y))
      obtain ⟨z, H', I', rz, y, rfl, q⟩ := z
      obtain ⟨t, rfl⟩ := rz
      exact wpAny_pure ⟨_, _, rfl, .str y, H', I', ⟨t, rfl⟩, q⟩
    exact wpAny_bind (wpAny_mono key (fun r s₁ hr => wpAny_pure hr) fun _ _ y => y)
  · rintro obj s₁ ⟨y, u, rfl, hq⟩
    exact ⟨typeIs_str _ _ _, PySem.F.args_object_init_2 _ _, object_init_meets PySem.F.called_str.init.lookup PySem.F.called_str.made (by decide) X.prog X.w X.A.in1 _ s₁ ⟨typeIs_str _ _ _, rfl, hq⟩⟩
/-- x == y by an own __eq__ -/
theorem op_eqO (G : PromM X.prog X.w X.K X.mg X.base CX k C "__eq__" ps sp) (hr : Room k X.A) (hx : Passes CX X E) :
    OpR X (compareOp .Eq) (fun x y H Q => ∃ p q dx fs dy gs, x = .ref p ∧ y = .ref q ∧ H p = some (.ins (He.ga X.K C) dx fs) ∧ H q = some (.ins (He.ga X.K C) dy gs) ∧ sp [.ref p, .ref q] H (fun v H2 => ∃ b : Bool, v = .bl b ∧ Q (.bl b) H2) E) := by
  intro pins s σ H x y v u Q I rx ry h
  obtain ⟨p, q, dx, fs, dy, gs, rfl, rfl, hp, hq, h⟩ := h
  obtain rfl : v = Value.ref p := rx
  obtain rfl : u = Value.ref q := ry
  obtain ⟨m1, O1, _⟩ := ins_get I.hok hp
  obtain ⟨od1, J1, _⟩ := O1.look
  obtain ⟨m2, O2, _⟩ := ins_get I.hok hq
  obtain ⟨od2, J2, _⟩ := O2.look
  obtain ⟨m, hF⟩ := I.fr
  show wpAny (model X.prog X.w) X.A (richCompare .Eq (.ref p) (.ref q)) (EP X pins σ Q) X.xe s
  refine PySem.W.cmp_K (op := .Eq) (tb := .ref (He.ga X.K C)) hr.units0 hF I.ok.mod.kin J1 J2.type (by simp [PySem.W.notFirst]) G.me.at_ G.me.fn ?_
  refine wpAny_mono (run_own G hx (A := X.A) ⟨hr, rfl⟩ (vs := [.ref p, .ref q]) (us := [.ref p, .ref q]) I (.cons rfl (.cons rfl .nil)) h) (fun v s' z => ?_) fun _ _ y => y
  obtain ⟨z, H', I', rz, b, rfl, q⟩ := z
  cases rz
  exact ⟨.bl b, H', I', rfl, q⟩
/-- x != y by an own __eq__ -/
theorem op_neO (a : StrK X.K (He.ga X.K C)) (G : PromM X.prog X.w X.K X.mg X.base CX k C "__eq__" ps sp) (hr : Room (k + 1) X.A) (hx : Passes CX X E) :
    OpR X (compareOp .NotEq) (fun x y H Q => ∃ p q dx fs dy gs, x = .ref p ∧ y = .ref q ∧ H p = some (.ins (He.ga X.K C) dx fs) ∧ H q = some (.ins (He.ga X.K C) dy gs) ∧ sp [.ref p, .ref q] H (fun v H2 => ∃ b : Bool, v = .bl b ∧ Q (.bl !b) H2) E) := by
  intro pins s σ H x y v u Q I rx ry h
  obtain ⟨p, q, dx, fs, dy, gs, rfl, rfl, hp, hq, h⟩ := h
  obtain rfl : v = Value.ref p := rx
  obtain rfl : u = Value.ref q := ry
  obtain ⟨m1, O1, _⟩ := ins_get I.hok hp
  obtain ⟨od1, J1, _⟩ := O1.look
  obtain ⟨m2, O2, _⟩ := ins_get I.hok hq
  obtain ⟨od2, J2, _⟩ := O2.look
  show wpAny (model X.prog X.w) X.A (richCompare .NotEq (.ref p) (.ref q)) (EP X pins σ Q) X.xe s
  have one : wpAny (model X.prog X.w) X.A (tryCompare (.ref p) "__ne__" (.ref q)) (fun r s' => ∃ v, r = some v ∧ EP X pins σ Q v s') X.xe s := by
    unfold tryCompare
    refine wpAny_bind ?_
    simp only [callSpecialIfBound?, bindSpecialIfBound?]
    refine wpAny_holding (wpAny_bind (wpAny_bind (wpAny_bind (J1.type.here ((PySem.W.looks_findIn I.kIn a.ne).here ?_)))))
    refine wpAny_bind (wpAny_askSetting (wpAny_ite ?_))
    have run : wpAny (model X.prog X.w) X.A (call (.builtin "object.__ne__") [.ref p, .ref q]) (fun r s' => ∃ b : Bool, r = .bool b ∧ EP X pins σ Q (.bool b) s') X.xe s := by
      refine wpAny_call (codeAny_call_builtin PySem.F.slot_object_ne.plain PySem.F.entry_object_ne (PySem.W.check_slot (i := "object.__ne__") (owner := "object") (n := "__ne__") (by decide +kernel) (by decide +kernel) (J1.type.andThen (PySem.W.looks_mroIn I.kIn a.mro)) (PySem.F.args_object_ne_2 _ _) ?_))
      unfold Builtin.«object.__ne__»
      refine wpAny_bind (m := slotArgs "__ne__" 1 _) (wpAny_pure ?_)
      refine wpAny_bind (m := cRoomFor _ _) (wpAny_cRoomFor hr.in1.units0 ?_)
      refine wpAny_bind (m := callSpecialIfBound? (.ref p) (Str.ofString "__eq__") _) (PySem.W.ifBound_K I.kIn J1 G.me.at_ G.me.fn (wpAny_mono (run_own G hx (A := X.A.in1) ⟨hr.in1, rfl⟩ (vs := [.ref p, .ref q]) (us := [.ref p, .ref q]) I (.cons rfl (.cons rfl .nil)) h) (fun r s' z => ?_) fun _ _ y => y))
      obtain ⟨z, H', I', rz, b, rfl, q⟩ := z
      cases rz
      exact wpAny_bind (wpAny_truthy_bool (wpAny_pure ⟨!b, rfl, .bl !b, H', I', rfl, q⟩))
    have fin : wpAny (model X.prog X.w) X.A (call (.builtin "object.__ne__") ([.ref p] ++ [.ref q]) >>= fun v => pure (some v)) (fun r s2 => ∃ b : Bool, r = some (.bool b) ∧ EP X pins σ Q (.bool b) s2) X.xe s :=
      wpAny_bind (wpAny_mono run (fun v s' h' => wpAny_pure (by obtain ⟨b, rfl, h'⟩ := h'; exact ⟨b, rfl, h'⟩)) fun _ _ h' => h')
    have fin2 := wpAny_mono (Q' := fun r s2 => wpAny (model X.prog X.w) X.A (match r with
      | some .notImplemented => pure none
      | none => pure none
      | some v => pure (some v) : Sem (Option Value)) (fun r s' => ∃ v, r = some v ∧ EP X pins σ Q v s') X.xe s2) fin (fun r s2 z => by
        obtain ⟨b, e, z⟩ := z
        subst e
        exact wpAny_pure ⟨_, rfl, z⟩) fun _ _ z => z
    split
    · exact wpAny_bind (wpAny_of_eq (PySem.F.slot_object_ne.bind _) (wpAny_pure (by exact fin2)))
    · exact wpAny_tryCatch (wpAny_bind (wpAny_of_eq (PySem.F.slot_object_ne.bind _) (wpAny_pure (by exact fin2))))
  unfold richCompare
  simp only [oneThing_ref]
  refine wpAny_holding (wpAny_bind (wpAny_cRoomFor hr.units0 ?_))
  rw [cmpInfo_NotEq]
  dsimp only
  refine wpAny_bind (J1.type.here (wpAny_bind (J2.type.here ?_)))
  rw [show (Value.ref (He.ga X.K C) != Value.ref (He.ga X.K C)) = false from by simp]
  simp only [Bool.false_eq_true, if_false]
  refine wpAny_bind (wpAny_pure ?_)
  simp only [Bool.false_eq_true, if_false]
  refine wpAny_bind (wpAny_mono one (fun r s' z => ?_) fun _ _ e => e)
  obtain ⟨v, rfl, hq⟩ := z
  exact wpAny_pure hq
end
end Sz
/-! set comprehensions of ints (the walk is that of HandS.SetBool, turned to ints), sorted(set) of any number -/
namespace Sz
open PySem PySem.Spec PyProof.Rows L2 PpSet
section
variable {X : Cx}
theorem addI_ok {pins : List (Addr × Obj)} {σ : L2.St} {H : Hp} {s : Shared} {E : Value → Shared → Prop} {D : Addr} {S : Int → Bool} {n : Nat} {y : Int} {tk : Tok} {Q : Value → Shared → Prop} (I : Inv X pins σ H s) (hD : H D = some (SetO X.w D S n)) (room : n + 1 < scanBound)
    (h : ∀ s', Inv X pins σ (upd H D (SetO X.w D (fun j => S j || decide (j = y)) (if S y = true then n else n + 1))) s' → Q .none s') : wpAny (model X.prog X.w) X.A (call (.builtin "set.add") [.ref D, .int y tk]) Q E s := by
  have R := setO_get I hD
  refine setR_add R room fun h' sb new => ?_
  have he : ∃ u, h'.get? D = some u := by
    have ⟨o, _, _, _, ho, _⟩ := new
    exact ⟨o, ho⟩
  exact h _ (I.write (e := D) (t' := s.toks + 1) (by rw [hD]; trivial) (.inl rfl) (fun b u hb hu => (sb.2 b hb).trans hu) he (setO_new new))
def tScI (w : World) (wi : TI) (g : TG) (tt : TT) (te : TE) (vs : List Nat) : TE := fun σ H Q => wi σ H fun J H1 => ∀ D, H1 D = none → ∃ W : Nat → Nat → Hp → Prop, (∃ m, W 0 m (upd H1 D (SetO w D (fun _ => false) 0))) ∧ ∀ i m H, W i m H →
  (J.stop i H ∧ Q (.ref D) H) ∨ (J.go i H ∧ ∃ Nx : Hp → Prop, (∀ H', Nx H' → ∃ m', m' < m ∧ W (i + 1) m' H') ∧ ∀ x H', J.yld i H x H' → g x (wipe σ vs) H' fun σ2 H2 => wipe σ2 vs = wipe σ vs ∧ tt σ2 H2 fun b H3 =>
    if b = true then te σ2 H3 fun y H4 => ∃ (c : Int) (S : Int → Bool) (n : Nat), y = .int c ∧ H4 D = some (SetO w D S n) ∧ n + 1 < scanBound ∧ Nx (upd H4 D (SetO w D (fun j => S j || decide (j = c)) (if S c = true then n else n + 1))) else Nx H3)
theorem sc_coreI {pins : List (Addr × Obj)} {s : Shared} {σ : L2.St} {H : Hp} {Q : VK} {elt tg iter : Expr} {ifs : List Expr} {scope : Scope} {own : List (PySem.Str × Nat)} {pos pos' : Pos} {wi : TI} {g : TG} {tt : TT} {te : TE} {use : Option (Value → Sem Unit)} {Qf : Value → Shared → Prop}
    (hc : X.calm = true) (hN : X.N.Nodup) (I : Inv X pins σ H s) (hi : PI X tg iter wi) (ok : BlkOk X.N X.env.scope scope own)
    (hg : ∀ (s : Shared) (H : Hp) (C : Addr) (cl : List (PySem.Str × Addr)) (fp : List Addr), PG (X.blk s H scope (compEnvC scope cl C X.env) fp) tg g) (ht : ∀ (s : Shared) (H : Hp) (C : Addr) (cl : List (PySem.Str × Addr)) (fp : List Addr), PTs (X.blk s H scope (compEnvC scope cl C X.env) fp) ifs tt)
    (he : ∀ (s : Shared) (H : Hp) (C : Addr) (cl : List (PySem.Str × Addr)) (fp : List Addr), PE (X.blk s H scope (compEnvC scope cl C X.env) fp) elt te) (hs : ∀ x, foldedSetIterable iter X.env x = pure x)
    (h : tScI X.w wi g tt te (own.map (·.2)) σ H Q)
    (hRR : ∀ D C s' m H', Inv X pins σ H' s' → Q (.ref D) H' → s'.heap.Ns C m → FpOk X pins H' C → compPost (model X.prog X.w) X.A X.xe use Qf (.ref D) C (.ok .next) s') :
    wpAny (model X.prog X.w) X.A (comprehension (.SetComp elt [⟨tg, iter, ifs, 0⟩] scope pos) scope X.env pos' (newSet (.type "set")) false (eval iter X.env) use) Qf X.xe s := by
  have hfree : ∀ y ∈ scope.names, y.2 = .free → ∃ c, X.env.cells.lookup y.1 = some c := fun y hy e => by
    rcases ok.free y hy e with k | k
    · exact I.ok.has _ (.inl k)
    · exact I.ok.has _ (.inr k)
  refine wpAny_comprehension_free (use := use) rfl hs (closure_ok hfree) ok.kind (fun y hy e => by rw [ok.uniq y hy, e])
    (thn (hi.run pins s σ H _ I h) fun xv s1 hx => thn hx fun itv s2 h2 => ?_)
  obtain ⟨it, fp, tn, J, H2, e, I2, T, st2, f2, q⟩ := h2
  subst e
  refine newSet_ok (newEnv_comp ?_)
  generalize hD : s2.heap.objs.size = D
  have hDn : H2 D = none := I2.hok.fresh (Nat.le_of_eq hD)
  obtain ⟨W, ⟨m0, w0⟩, turn⟩ := q D hDn
  -- the new list
  generalize hs3 : ({ s2 with heap := s2.heap.push { cls := .type "set", dict := none, data := .set #[] 0 (.fresh 0 0 (!X.w.params.followText "set-order")) } } : Shared) = s3
  have I3 : Inv X pins σ (upd H2 D (SetO X.w D (fun _ => false) 0)) s3 := by
    rw [← hs3]
    refine I2.laid (t' := s2.toks) (fun b o e => Heap.get?_push_of_some _ e) (Nat.le_of_eq hD) ?_
    rw [← hD]
    exact setO_new (setR_fresh X.w)
  have h3 : s3.heap = s2.heap.push { cls := .type "set", dict := none, data := .set #[] 0 (.fresh 0 0 (!X.w.params.followText "set-order")) } := by rw [← hs3]
  have sz : ∀ b ∈ fp, b < s2.heap.objs.size := fun b hb => by
    obtain ⟨o, e, _⟩ := T.obj _ _ st2 b hb
    exact Heap.lt_size e
  have f3 : ∀ b ∈ fp, FpOk X pins (upd H2 D (SetO X.w D (fun _ => false) 0)) b ∧ b < s3.heap.objs.size := fun b hb => by
    have hlt := sz b hb
    refine ⟨⟨?_, (f2 b hb).2⟩, by rw [h3, Heap.size_push]; exact Nat.lt_succ_of_lt hlt⟩
    rw [upd_ne (by rw [← hD]; exact Nat.ne_of_lt hlt)]
    exact (f2 b hb).1
  have st3 : tn 0 s3.heap := T.keep _ _ _ st2 fun b _ o e => by rw [h3]; exact Heap.get?_push_of_some _ e
  have I4 := block_start I3 ok hN f3
  have pg := hg s3 (upd H2 D (SetO X.w D (fun _ => false) 0)) s3.heap.objs.size (cellsFrom (s3.heap.objs.size + 1) scope.names (cloFrom X.env.cells scope.names [])) fp
  have pt := ht s3 (upd H2 D (SetO X.w D (fun _ => false) 0)) s3.heap.objs.size (cellsFrom (s3.heap.objs.size + 1) scope.names (cloFrom X.env.cells scope.names [])) fp
  have pe := he s3 (upd H2 D (SetO X.w D (fun _ => false) 0)) s3.heap.objs.size (cellsFrom (s3.heap.objs.size + 1) scope.names (cloFrom X.env.cells scope.names [])) fp
  show codeAny _ _ (.compStart (.SetComp elt [⟨tg, iter, ifs, 0⟩] scope pos) 0 (.ref it) (.ref D) (compEnvC scope (cellsFrom (s3.heap.objs.size + 1) scope.names (cloFrom X.env.cells scope.names [])) s3.heap.objs.size X.env)) (compPost (model X.prog X.w) X.A X.xe use Qf (.ref D) s3.heap.objs.size) { s3 with heap := pushCells (s3.heap.push { cls := .type "dict", data := .dict #[] }) scope.names }
  have nfp : ∀ b ∈ fp, (upd H2 D (SetO X.w D (fun _ => false) 0)) b = none := fun b hb => (f3 b hb).1.1
  generalize hce : compEnvC scope (cellsFrom (s3.heap.objs.size + 1) scope.names (cloFrom X.env.cells scope.names [])) s3.heap.objs.size X.env = ce at I4 pg pt pe ⊢
  have cL : ce.locals = s3.heap.objs.size := by subst hce; rfl
  generalize hH3 : upd H2 D (SetO X.w D (fun _ => false) 0) = H3 at I3 I4 pg pt pe w0 nfp f3
  generalize hs4 : ({ s3 with heap := pushCells (s3.heap.push { cls := .type "dict", data := .dict #[] }) scope.names } : Shared) = s4 at I4 ⊢
  have st4 : tn 0 s4.heap := T.keep _ _ _ st3 fun b _ o e => by rw [← hs4]; exact pushCells_keeps _ _ _ _ (Heap.get?_push_of_some _ e)
  have stat : ∀ {σ' : L2.St} {H' : Hp} {s' : Shared}, Inv (X.blk s3 H3 scope ce fp) [] σ' H' s' → (∀ b ∈ fp, H' b = none) → ∀ b ∈ fp, FpOk (X.blk s3 H3 scope ce fp) [] H' b := fun {σ' H' s'} I' hn b hb =>
    ⟨hn b hb, (I'.ok.exf b hb).1, I'.ok.exfs b hb, .inl hb, fun x c e => (I'.ok.exf b hb).2 x c e, fun p hp => absurd (show p ∈ ([] : List (Addr × Obj)) ++ [] from hp) (by simp)⟩
  have loop : codeAny (model X.prog X.w) X.A (.compLoop (.SetComp elt [⟨tg, iter, ifs, 0⟩] scope pos) 0 (.ref it) (.ref D) ce) (compPost (model X.prog X.w) X.A X.xe use Qf (.ref D) s3.heap.objs.size) s4 := by
    refine compLoopS_any (fun n s' => ∃ i H', Inv (X.blk s3 H3 scope ce fp) [] (wipe σ (own.map (·.2))) H' s' ∧ tn i s'.heap ∧ (∀ b ∈ fp, H' b = none) ∧ W i n H') ?_ m0 ⟨0, H3, I4, st4, nfp, w0⟩
    rintro n s5 ⟨i, H5, I5, st5, n5, w5⟩
    rcases turn i n H5 w5 with ⟨stop, qq⟩ | ⟨go, Nx, hNx, step⟩
    · have td := T.done (X.blk s3 H3 scope ce fp) rfl rfl rfl hc i [] s5 _ H5 (fun _ _ => False) I5 (stat I5 n5) st5 stop
      refine thnF td fun r s6 ⟨hr, I6⟩ => ?_
      subst hr
      -- back in the def's context
      have I7 : Inv X pins σ H5 s6 := I3.call' (ch := fp) I6.os I6.base I6.hok I6.bare fun b hb => ⟨(f3 b hb).1.2.2.2.1, (f3 b hb).1.2.1, (f3 b hb).1.2.2.2.2.1, (f3 b hb).1.2.2.2.2.2⟩
      have nC : H5 s3.heap.objs.size = none := by
        have z : H5 ce.locals = none := I6.free
        rw [cL] at z
        exact z
      obtain ⟨m, hn, _⟩ := I6.loc
      have hn : s6.heap.Ns ce.locals m := hn
      rw [cL] at hn
      exact hRR D s3.heap.objs.size s6 m H5 I7 qq hn (I3.fpOk (Nat.le_refl _) nC)
    · have ti := T.item (X.blk s3 H3 scope ce fp) rfl rfl rfl hc i [] s5 _ H5 (fun _ _ => False) I5 (stat I5 n5) st5 go
      refine thnF ti fun r s6 ⟨u, hr, h6⟩ => ?_
      subst hr
      refine thnF h6 fun _ s7 ⟨x, H7, I7, r7, y7, st7, n7⟩ => ?_
      have I7' := I7.pinned (stat I7 n7) (T.obj _ _ st7)
      refine thnF (pg.run _ s7 _ H7 x u _ I7' r7 (step x H7 y7)) fun _ s8 ⟨σ8, H8, I8, hw8, q8⟩ => ?_
      refine thnF (pt.run _ s8 σ8 H8 _ I8 q8) fun b s9 ⟨H9, I9, q9⟩ => ?_
      -- the turn's end
      have fin : ∀ {s' : Shared} {H' : Hp}, Inv (X.blk s3 H3 scope ce fp) ([] ++ pinsAt fp s7.heap) σ8 H' s' → Nx H' → ∃ m, m < n ∧ ∃ i H', Inv (X.blk s3 H3 scope ce fp) [] (wipe σ (own.map (·.2))) H' s' ∧ tn i s'.heap ∧ (∀ b ∈ fp, H' b = none) ∧ W i m H' := fun {s' H'} I' nx => by
        obtain ⟨m', hm, w'⟩ := hNx H' nx
        have pin' : ∀ b ∈ fp, ∀ o, s7.heap.get? b = some o → s'.heap.get? b = some o ∧ H' b = none := fun b hb o e =>
          let z := I'.pin (b, o) (List.mem_append_right _ (List.mem_append_right _ (mem_pinsAt hb e)))
          ⟨z.1, z.2.1⟩
        have hl : (wipe σ (own.map (·.2))).length = σ8.length := by rw [← hw8, wipe_length]
        refine ⟨m', hm, i + 1, H', (I'.unpinned (pins := [])).weak hl (fun j v e => ?_), T.keep _ _ _ st7 fun b hb o e => (pin' b hb o e).1, fun b hb => ?_, w'⟩
        · rw [← hw8] at e
          exact (wipe_some e).1
        · obtain ⟨o, e, _⟩ := T.obj _ _ st7 b hb
          exact (pin' b hb o e).2
      cases b with
      | false =>
        simp only [Bool.false_eq_true, if_false] at q9 ⊢
        exact fin I9 q9
      | true =>
        simp only [if_true] at q9 ⊢
        refine thnF (pe.run _ s9 σ8 H9 _ I9 q9) fun z s10 ⟨yv, H10, I10, r10, cb, S0, n0, ey, hD10, hz10, nx⟩ => ?_
        subst ey
        obtain ⟨tk, rfl⟩ := r10
        exact addI_ok (X := X.blk s3 H3 scope ce fp) I10 hD10 hz10 fun s11 I11 => fin I11 nx
  exact codeAny_compStart_set loop (T.self X.A 0 _ _ _ st4 loop)
/-- as a value -/
theorem pe_scI {elt tg iter : Expr} {ifs : List Expr} {scope : Scope} {own : List (PySem.Str × Nat)} {pos : Pos} {wi : TI} {g : TG} {tt : TT} {te : TE} (hc : X.calm = true) (hN : X.N.Nodup) (hi : PI X tg iter wi) (ok : BlkOk X.N X.env.scope scope own)
    (hg : ∀ (s : Shared) (H : Hp) (C : Addr) (cl : List (PySem.Str × Addr)) (fp : List Addr), PG (X.blk s H scope (compEnvC scope cl C X.env) fp) tg g) (ht : ∀ (s : Shared) (H : Hp) (C : Addr) (cl : List (PySem.Str × Addr)) (fp : List Addr), PTs (X.blk s H scope (compEnvC scope cl C X.env) fp) ifs tt)
    (he : ∀ (s : Shared) (H : Hp) (C : Addr) (cl : List (PySem.Str × Addr)) (fp : List Addr), PE (X.blk s H scope (compEnvC scope cl C X.env) fp) elt te) (hs : ∀ x, foldedSetIterable iter X.env x = pure x := by intro _; rfl) :
    PE X (.SetComp elt [⟨tg, iter, ifs, 0⟩] scope pos) (tScI X.w wi g tt te (own.map (·.2))) := by
  refine ⟨fun pins s σ H Q I h => ?_⟩
  rw [eval_SetComp]
  refine sc_coreI hc hN I hi ok hg ht he hs h fun D C s' m H' I' q hn f => ⟨m, hn, fun h'' sb => ?_⟩
  obtain ⟨f0, f1, f2, f3, f4, f5⟩ := f
  exact ⟨.ref D, H', I'.turned (t' := s'.toks) (fun b o hb e => (sb.2 b hb).trans e) f0 f1 f3 f4 f5, rfl, q⟩
/-- over a list that the block leaves as it is -/
theorem sc_listI {w : World} {K : PySem.W.Frag} {a : Addr} {xs : List V} {g : TG} {tt : TT} {te : TE} {vs : List Nat} {σ : L2.St} {H1 : Hp} {D : Addr} {Qd : Hp → Prop} (Pv : Nat → Hp → Prop) (h0 : Pv 0 (upd H1 D (SetO w D (fun _ => false) 0))) (hl : ∀ i H, i ≤ xs.length → Pv i H → SqL K H a xs)
    (hs : ∀ i x H, xs[i]? = some x → Pv i H → g x (wipe σ vs) H fun σ2 H2 => wipe σ2 vs = wipe σ vs ∧ tt σ2 H2 fun b H3 =>
      if b = true then te σ2 H3 fun y H4 => ∃ (c : Int) (S : Int → Bool) (n : Nat), y = .int c ∧ H4 D = some (SetO w D S n) ∧ n + 1 < scanBound ∧ Pv (i + 1) (upd H4 D (SetO w D (fun j => S j || decide (j = c)) (if S c = true then n else n + 1))) else Pv (i + 1) H3) (hd : ∀ H, Pv xs.length H → Qd H) :
    ∃ W : Nat → Nat → Hp → Prop, (∃ m, W 0 m (upd H1 D (SetO w D (fun _ => false) 0))) ∧ ∀ i m H, W i m H →
      ((Itl K a).stop i H ∧ Qd H) ∨ ((Itl K a).go i H ∧ ∃ Nx : Hp → Prop, (∀ H', Nx H' → ∃ m', m' < m ∧ W (i + 1) m' H') ∧ ∀ x H', (Itl K a).yld i H x H' → g x (wipe σ vs) H' fun σ2 H2 => wipe σ2 vs = wipe σ vs ∧ tt σ2 H2 fun b H3 =>
        if b = true then te σ2 H3 fun y H4 => ∃ (c : Int) (S : Int → Bool) (n : Nat), y = .int c ∧ H4 D = some (SetO w D S n) ∧ n + 1 < scanBound ∧ Nx (upd H4 D (SetO w D (fun j => S j || decide (j = c)) (if S c = true then n else n + 1))) else Nx H3) := by
  refine ⟨fun i m H => m = xs.length - i ∧ i ≤ xs.length ∧ Pv i H, ⟨xs.length, by simp, Nat.zero_le _, h0⟩, ?_⟩
  rintro i m H ⟨rfl, hi, p⟩
  have q := hl i H hi p
  by_cases hlt : i < xs.length
  · refine .inr ⟨⟨xs, xs[i], q, by simp [hlt]⟩, Pv (i + 1), fun H' p' => ⟨xs.length - (i + 1), by omega, rfl, hlt, p'⟩, fun x H' y => ?_⟩
    obtain ⟨e, y⟩ := y
    subst e
    exact hs i x _ (y xs q) p
  · have e : i = xs.length := by omega
    subst e
    exact .inl ⟨⟨xs, q, Nat.le_refl _⟩, hd H p⟩
/-- over a tuple that the block leaves as it is -/
theorem sc_tupI {w : World} {K : PySem.W.Frag} {a : Addr} {xs : List V} {g : TG} {tt : TT} {te : TE} {vs : List Nat} {σ : L2.St} {H1 : Hp} {D : Addr} {Qd : Hp → Prop} (Pv : Nat → Hp → Prop) (h0 : Pv 0 (upd H1 D (SetO w D (fun _ => false) 0))) (hl : ∀ i H, i ≤ xs.length → Pv i H → SqT K H a xs)
    (hs : ∀ i x H, xs[i]? = some x → Pv i H → g x (wipe σ vs) H fun σ2 H2 => wipe σ2 vs = wipe σ vs ∧ tt σ2 H2 fun b H3 =>
      if b = true then te σ2 H3 fun y H4 => ∃ (c : Int) (S : Int → Bool) (n : Nat), y = .int c ∧ H4 D = some (SetO w D S n) ∧ n + 1 < scanBound ∧ Pv (i + 1) (upd H4 D (SetO w D (fun j => S j || decide (j = c)) (if S c = true then n else n + 1))) else Pv (i + 1) H3) (hd : ∀ H, Pv xs.length H → Qd H) :
    ∃ W : Nat → Nat → Hp → Prop, (∃ m, W 0 m (upd H1 D (SetO w D (fun _ => false) 0))) ∧ ∀ i m H, W i m H →
      ((Itt K a).stop i H ∧ Qd H) ∨ ((Itt K a).go i H ∧ ∃ Nx : Hp → Prop, (∀ H', Nx H' → ∃ m', m' < m ∧ W (i + 1) m' H') ∧ ∀ x H', (Itt K a).yld i H x H' → g x (wipe σ vs) H' fun σ2 H2 => wipe σ2 vs = wipe σ vs ∧ tt σ2 H2 fun b H3 =>
        if b = true then te σ2 H3 fun y H4 => ∃ (c : Int) (S : Int → Bool) (n : Nat), y = .int c ∧ H4 D = some (SetO w D S n) ∧ n + 1 < scanBound ∧ Nx (upd H4 D (SetO w D (fun j => S j || decide (j = c)) (if S c = true then n else n + 1))) else Nx H3) := by
  refine ⟨fun i m H => m = xs.length - i ∧ i ≤ xs.length ∧ Pv i H, ⟨xs.length, by simp, Nat.zero_le _, h0⟩, ?_⟩
  rintro i m H ⟨rfl, hi, p⟩
  have q := hl i H hi p
  by_cases hlt : i < xs.length
  · refine .inr ⟨⟨xs, xs[i], q, by simp [hlt]⟩, Pv (i + 1), fun H' p' => ⟨xs.length - (i + 1), by omega, rfl, hlt, p'⟩, fun x H' y => ?_⟩
    obtain ⟨e, y⟩ := y
    subst e
    exact hs i x _ (y xs q) p
  · have e : i = xs.length := by omega
    subst e
    exact .inl ⟨⟨xs, q, Nat.le_refl _⟩, hd H p⟩
/-- sorted(set) -/
theorem sorted_setA {P : Program} {w : World} {A : Around} {E : Value → Shared → Prop} {s : Shared} {a : Addr} {S : Int → Bool} {n : Nat} {Q : Value → Shared → Prop} (R : SetR w s.heap a S n) (hh : A.handled = none)
    (hQ : ∀ s' p (out : List Value) (c : Nat) (ns : List Int), (∀ b o, s.heap.get? b = some o → s'.heap.get? b = some o) → s'.gens = s.gens → s'.os = s.os → s.heap.objs.size ≤ p →
      s'.heap.get? p = some (seqObj "list" out.toArray c) → IntsAre out ns → ns.Pairwise (· < ·) → (∀ k, k ∈ ns ↔ S k = true) → ns.length = n → Q (.ref p) s') :
    wpAny (model P w) A (call (.builtin "sorted") [.ref a]) Q E s := by
  obtain ⟨o, es, ep, t, ho, hex, hd, g, nd, hm, hb, hf, hn, hr, hl⟩ := R
  have hb2 : n < 4096 := by rw [← hn]; exact hb
  refine Calls.call_function_entry kind_sorted plain_sorted entry_sorted (args_sorted1 _) ?_
  unfold Builtin.«sorted»
  refine wpAny_bind (m := checkCount "sorted" 1 1 _) (wpAny_pure ?_)
  refine wpAny_bind (collect_set (A := A.in1) hh ⟨o, ho, hex.1, hd⟩ hf hb hr hl fun s1 vs k1 hz g1 o1 pm => ?_)
  have hvl : vs.length = n := by rw [pm.length_eq, List.length_map, Array.length_toList]; exact hn
  have hI : IntsAre vs (vs.map Builtin.Re.reRawOf) := ints_of vs fun v hv => by
    obtain ⟨e, he, q⟩ := List.mem_map.mp (pm.mem_iff.mp hv)
    obtain ⟨k, tk, h1, _⟩ := g e he
    exact ⟨k, tk, by rw [← q]; exact h1⟩
  have pk : (vs.map Builtin.Re.reRawOf).Perm (es.toList.map keyOf) := by
    have q := pm.map Builtin.Re.reRawOf
    rw [List.map_map] at q
    exact q
  have hvz : vs.length ≤ sizeLine := by rw [hvl, sizeLine_eq]; omega
  refine wpAny_bind (wpAny_newList ?_ hvz)
  have hoL : (s1.heap.push (seqObj "list" vs.toArray 0)).get? s1.heap.objs.size = some (seqObj "list" vs.toArray 0) := Heap.get?_push_size _ rfl
  refine wpAny_bind (wpAny_holding (wpAny_call_entry slot_list_sort ⟨_, hoL, rfl⟩ entry_list_sort (SrtO.list_sort_ord SrtO.swo_int hoL hvz (fun h2 => SrtO.ints_sortable hI h2) fun out h1 h2 => ⟨_, rfl, ?_⟩) (args_list_sort _)))
  obtain ⟨a1, a2, a3⟩ := SrtO.ints_out hI h1 h2
  obtain ⟨c, hc⟩ := sortedHeap_at (vs := vs) (out := out.toArray) hoL
  have pn : (out.map SrtO.iv).Perm (es.toList.map keyOf) := a2.trans pk
  refine wpAny_pure ⟨_, rfl, hQ _ s1.heap.objs.size out c _ (fun b u e => ?_) g1 o1 hz hc a1 (lt_of_le_nodup _ a3 (pn.nodup_iff.mpr nd)) (fun k => by rw [pn.mem_iff, ← hm k]) ?_⟩
  · have q := k1 b u e
    have hlt := Heap.lt_size q
    show (sortedHeap (s1.heap.push (seqObj "list" vs.toArray 0)) s1.heap.objs.size vs out.toArray).get? b = some u
    rw [sortedHeap_old (Nat.ne_of_lt hlt) (by rw [size_push']; exact Nat.lt_succ_of_lt hlt)]
    exact Heap.get?_push_of_some _ q
  · rw [pn.length_eq, List.length_map, Array.length_toList]; exact hn
def rSortedSetA (w : World) : List V → Hp → VK → Prop := fun vs H Q => ∃ (a : Addr) (S : Int → Bool) (n : Nat), vs = [V.ref a] ∧ H a = some (SetO w a S n) ∧ n < 4096 ∧
  ∀ (ns : List Int) (p : Addr), ns.Pairwise (· < ·) → (∀ k : Int, k ∈ ns ↔ S k = true) → ns.length = n → H p = none → Q (.ref p) (upd H p (.lst (ns.map V.int)))
theorem cr_sortedSetA (hc : X.calm = true) : CallR X (.builtin "sorted") (rSortedSetA X.w) := by
  intro pins s σ H vs us Q I r h
  obtain ⟨a, S, n, rfl, ha, h4, q⟩ := h
  have R := setO_get I ha
  rw [Vals.ref1 r]
  refine sorted_setA R (I.ok.hd hc) fun s' p out c ns k g o hp hg hi hs hm hl => ?_
  have hlen : (ns.map V.int).length ≤ sizeLine := by rw [List.length_map, hl, sizeLine_eq]; omega
  have hn : H p = none := I.hok.fresh hp
  have J : Inv X pins σ (upd H p (.lst (ns.map V.int))) { s with heap := s'.heap, gens := s'.gens, drawn := s'.drawn, toks := s'.toks } :=
    I.call (ch := []) (Un.laid k hp hn) (I.hok.laid k hp ⟨hlen, out, c, vals_of_ints hi, hg⟩) (by rw [g]; exact I.bare) (fun _ z => nomatch z)
  have e : s' = { s with heap := s'.heap, gens := s'.gens, drawn := s'.drawn, toks := s'.toks } := by
    cases s'
    cases s
    cases o
    rfl
  rw [e]
  exact ⟨.ref p, _, J, rfl, q ns p hs hm hl hn⟩
end
end Sz
/-! a <= b <= c <= .. as a test, of any length -/
namespace Sz
open PySem PySem.Spec PyProof.Rows L2
/-- len within a comprehension -/
def rLenS (K : PySem.W.Frag) : List V → Hp → VK → Prop := fun xs H Q => ∃ p ys, xs = [V.ref p] ∧ (SqL K H p ys ∨ SqT K H p ys) ∧ Q (V.int (ys.length : Nat)) H
abbrev TL := V → L2.St → Hp → (Bool → Hp → Prop) → Prop
section
variable {X : Cx} {a b c : Expr} {cs : List Expr} {op op' : CmpOp} {ops : List CmpOp} {ta tb : TE} {r : R2} {t : TL} {pos : Pos}
/-- the rest of a chain, behind a value -/
def PL (X : Cx) (ops : List CmpOp) (cs : List Expr) (t : TL) : Prop :=
  ∀ (pos : Pos) (pins : List (Addr × Obj)) (s : Shared) (σ : L2.St) (H : Hp) (x : V) (v : Value) (Q : Bool → Hp → Prop), Inv X pins σ H s → RelV x v → t x σ H Q →
    wpAny (model X.prog X.w) X.A (testChain pos v ops (evalEach cs X.env)) (fun k s' => ∃ H', Inv X pins σ H' s' ∧ Q k H') X.xe s
def tlLast (r : R2) (tb : TE) : TL := fun x σ H Q => tb σ H fun y H2 => r x y H2 fun z H3 => ∃ k, z = .bl k ∧ Q k H3
def tlMore (r : R2) (tb : TE) (t : TL) : TL := fun x σ H Q => tb σ H fun y H2 => r x y H2 fun z H3 => ∃ k, z = .bl k ∧ if k = true then t y σ H3 Q else Q false H3
theorem pl_last (ho : OpR X (compareOp op) r) (hb : PE X b tb) : PL X [op] [b] (tlLast r tb) := by
  intro pos pins s σ H x v Q I rx h
  refine test_last (thn (hb.run pins s σ H _ I h) fun u s2 ⟨y, H2, I2, r2, q2⟩ => thn (ho pins s2 σ H2 x y v u _ I2 rx r2 q2) fun d s3 ⟨z, H3, I3, r3, k, e, q3⟩ => ?_)
  subst e
  cases r3
  exact wpAny_truthy_bool ⟨H3, I3, q3⟩
theorem pl_more (ho : OpR X (compareOp op) r) (hb : PE X b tb) (hr : PL X (op' :: ops) (c :: cs) t) : PL X (op :: op' :: ops) (b :: c :: cs) (tlMore r tb t) := by
  intro pos pins s σ H x v Q I rx h
  refine test_link (thn (hb.run pins s σ H _ I h) fun u s2 ⟨y, H2, I2, r2, q2⟩ => thn (ho pins s2 σ H2 x y v u _ I2 rx r2 q2) fun d s3 ⟨z, H3, I3, r3, k, e, q3⟩ => ?_)
  subst e
  cases r3
  refine wpAny_truthy_bool ?_
  cases k with
  | false => exact ite_ff ⟨H3, I3, q3⟩
  | true => exact ite_tt (hr pos pins s3 σ H3 y u Q I3 r2 q3)
def tChs (ta : TE) (t : TL) : TT := fun σ H Q => ta σ H fun x H1 => t x σ H1 Q
theorem pt_chains (ha : PE X a ta) (hr : PL X (op :: op' :: ops) (b :: c :: cs) t) (hm : lastMarks (op :: op' :: ops) (b :: c :: cs) = false := by with_unfolding_all rfl) :
    PT X (.Compare a (op :: op' :: ops) (b :: c :: cs) pos) (tChs ta t) := by
  refine ⟨fun pins s σ H Q I h => ?_⟩
  exact isTrue_chain (thn (ha.run pins s σ H _ I h) fun v s1 ⟨x, H1, I1, r1, q1⟩ => hr pos pins s1 σ H1 x v Q I1 r1 q1) hm
end
end Sz
/-! == by an own __eq__ that is promised to say True -/
namespace Sz
open PySem PySem.Spec PyProof.Rows L2
section
variable {X : Cx} {CX : CXT} {k : Nat} {C : Str} {ps : List Str} {R : Addr → Addr → Hp → Prop} {E : XK}
theorem rcG_insP (G : PromM X.prog X.w X.K X.mg X.base CX k C "__eq__" ps (spEq R)) (hx : Passes CX X E) : RcG X k (DIns (He.ga X.K C) R) := by
  obtain ⟨fd, F, b⟩ := G.ex
  exact rcG_ins F G.me.at_ G.me.fn b hx
theorem eqG_insP (G : PromM X.prog X.w X.K X.mg X.base CX k C "__eq__" ps (spEq R)) (hx : Passes CX X E) : EqG X k (DIns (He.ga X.K C) R) := by
  obtain ⟨fd, F, b⟩ := G.ex
  exact eqG_ins F G.me.at_ G.me.fn b hx
end
end Sz
/-! lists or tuples walked, a class with plain parameters, two tuples zipped -/
namespace Sz
open PySem PySem.Spec PyProof.Rows L2
section
variable {X : Cx} {tg l : Expr} {tl : TE}
/-- for x in s, s a list or a tuple -/
theorem pi_seq (hl : PE X l tl) : PI X tg l (fun σ H R => iList X.K tl σ H R ∨ iTup X.K tl σ H R) := by
  refine ⟨fun pins s σ H R I h => ?_⟩
  rcases h with h | h
  · exact (pi_list (tg := tg) hl).run pins s σ H R I h
  · exact (pi_tup (tg := tg) hl).run pins s σ H R I h
end
section
variable {K : PySem.W.Frag} {a b : Addr} {xs ys : List V} {n : Nat}
theorem walk_zipT (hn : n = min xs.length ys.length) : Walk (RZ.ItzT K a b) n (fun H => SqT K H a xs ∧ SqT K H b ys) (YPair (fun i => xs[i]?) (fun i => ys[i]?)) := by
  refine ⟨fun i H hi g => ?_, fun H g => ⟨xs, ys, g.1, g.2, by omega⟩, fun i H x H' hi g y => ?_⟩
  · have h1 : i < xs.length := by omega
    have h2 : i < ys.length := by omega
    exact ⟨xs, ys, xs[i], ys[i], g.1, g.2, List.getElem?_eq_getElem h1, List.getElem?_eq_getElem h2⟩
  · obtain ⟨T, x1, y1, e1, e2, e3, e4, e5⟩ := y
    exact ⟨T, x1, y1, e1, e2, e3, e4 xs g.1, e5 ys g.2⟩
end
section
variable {P : Program} {w : World} {K : PySem.W.Frag} {mg : Str → Option Value} {base : Heap}
/-- a class whose __init__ takes its parameters one by one -/
theorem PromC.plain {C q : Str} {st : Stmt} {N ps : List Str} {sp sp0 : Sp} {k : Nat} (mk : Mk K (He.ga K C) (He.ma K (He.ga K C) "__init__")) (hm : mg C = some (.ref (He.ga K C))) (D : DefAtM K C "__init__" q st) (S : FnScope N ps (defScope st))
    (len : ∀ vs H Q E, sp0 vs H Q E → vs.length = ps.length)
    (hb : ∀ (kV doc pm : Value) (an : Option Addr) (cdv ct : Value) (us : List Value), us.length = ps.length → bindArgs (PySem.W.fnOf "__init__" q (defArgs st) (defBody st) (defScope st) .none kV doc pm an cdv ct) ⟨us, []⟩ = pure (ps.zip us))
    (hbody : ∀ (f : Addr) (cdv : Value) (A : Around) (outer : List Env) (s : Shared) (H : Hp) (vs : List V) (Q : VK) (E : XK), Room k (A.deeper (envOfC q (defScope st) s.heap.objs.size f cdv)) → sp0 vs H Q E →
      ∃ t, PSs (cxOf CX0 P w K mg base N q (defScope st) f cdv A outer s H E).nox (defBody st) t ∧ t { nx := fun _ H' => Q .non H', rt := Q } (start N vs) H)
    (hsp : ∀ vs H Q E, sp vs H Q E → ∀ x dx, H x = none → H dx = none → dx ≠ x → sp0 (.ref x :: vs) (upd (upd H dx (.own x)) x (.ins (He.ga K C) dx [])) (fun u H2 => u = .non ∧ Q (.ref x) H2) E) :
    PromC P w K mg base CX0 (k + 1) C sp := by
  obtain ⟨fd, F⟩ := D
  have F1 : FnOk P w K mg base CX0 (k + 1) (He.ma K (He.ga K C) "__init__") fd ps sp0 := F.ok S len (fun cdv A outer s H vs Q E hr hs => by
    obtain ⟨t, h1, h2⟩ := hbody _ cdv A outer s H vs Q E hr hs
    exact ⟨t, h1.nox, h2⟩)
  refine ⟨mk, hm, _, F1.raw (F.bindsN hb) .nil, fun vs H Q E hs x dx hx hdx ne => ?_⟩
  rw [List.append_nil]
  exact hsp vs H Q E hs x dx hx hdx ne
end
end Sz
set_option maxHeartbeats 400000
namespace Sz
open PySem PySem.Spec PyProof.Rows L2
def top (i : Nat) : Stmt := PySem.Challenge.pw_sizestacks_k57_doubled_judged.main.body.getD i (.Pass ⟨0, 0, 0, 0⟩)
abbrev s__wall : Stmt := top 0
theorem sc__wall : FnScope ["k"] ["k"] (defScope s__wall) := ⟨rfl, rfl, rfl, by decide +kernel, rfl, by decide +kernel, by decide +kernel⟩
abbrev s_is_integer : Stmt := top 22
theorem sc_is_integer : FnScope ["value"] ["value"] (defScope s_is_integer) := ⟨rfl, rfl, rfl, by decide +kernel, rfl, by decide +kernel, by decide +kernel⟩
abbrev s_is_between : Stmt := top 23
theorem sc_is_between : FnScope ["value", "least", "most"] ["value", "least", "most"] (defScope s_is_between) := ⟨rfl, rfl, rfl, by decide +kernel, rfl, by decide +kernel, by decide +kernel⟩
abbrev s_check_length : Stmt := top 24
theorem sc_check_length : FnScope ["value"] ["value"] (defScope s_check_length) := ⟨rfl, rfl, rfl, by decide +kernel, rfl, by decide +kernel, by decide +kernel⟩
abbrev s_check_base : Stmt := top 25
theorem sc_check_base : FnScope ["value"] ["value"] (defScope s_check_base) := ⟨rfl, rfl, rfl, by decide +kernel, rfl, by decide +kernel, by decide +kernel⟩
abbrev s_figures_of : Stmt := top 26
theorem sc_figures_of : FnScope ["length", "base", "count", "power", "eight", "turn"] ["length", "base"] (defScope s_figures_of) := ⟨rfl, rfl, rfl, by decide +kernel, rfl, by decide +kernel, by decide +kernel⟩
abbrev s_amount_of : Stmt := top 27
theorem sc_amount_of : FnScope ["word", "amount", "sign"] ["word"] (defScope s_amount_of) := ⟨rfl, rfl, rfl, by decide +kernel, rfl, by decide +kernel, by decide +kernel⟩
abbrev s_fault_in : Stmt := top 32
theorem sc_fault_in : FnScope ["kind", "numbers", "index", "least", "most"] ["kind", "numbers"] (defScope s_fault_in) := ⟨rfl, rfl, rfl, by decide +kernel, rfl, by decide +kernel, by decide +kernel⟩
abbrev s_begun : Stmt := top 33
theorem sc_begun : FnScope ["length", "whole"] ["length", "whole"] (defScope s_begun) := ⟨rfl, rfl, rfl, by decide +kernel, rfl, by decide +kernel, by decide +kernel⟩
abbrev s_total_of : Stmt := top 34
theorem sc_total_of : FnScope ["length", "base", "figures"] ["length", "base"] (defScope s_total_of) := ⟨rfl, rfl, rfl, by decide +kernel, rfl, by decide +kernel, by decide +kernel⟩
abbrev s_in_pieces : Stmt := top 36
theorem sc_in_pieces : FnScope ["length", "most", "constant", "base", "size", "rest"] ["length", "most", "constant", "base"] (defScope s_in_pieces) := ⟨rfl, rfl, rfl, by decide +kernel, rfl, by decide +kernel, by decide +kernel⟩
abbrev s_wrap_in : Stmt := top 37
theorem sc_wrap_in : FnScope ["text", "words", "kind", "numbers", "word"] ["text"] (defScope s_wrap_in) := ⟨rfl, rfl, rfl, by decide +kernel, rfl, by decide +kernel, by decide +kernel⟩
abbrev s_check_wrap : Stmt := top 38
theorem sc_check_wrap : FnScope ["value"] ["value"] (defScope s_check_wrap) := ⟨rfl, rfl, rfl, by decide +kernel, rfl, by decide +kernel, by decide +kernel⟩
abbrev s_fineness_of : Stmt := top 40
theorem sc_fineness_of : FnScope ["wraps", "product", "wrap"] ["wraps"] (defScope s_fineness_of) := ⟨rfl, rfl, rfl, by decide +kernel, rfl, by decide +kernel, by decide +kernel⟩
abbrev s_check_wraps : Stmt := top 41
theorem sc_check_wraps : FnScope ["values", "most", "index", "value"] ["values", "most"] (defScope s_check_wraps) := ⟨rfl, rfl, rfl, by decide +kernel, rfl, by decide +kernel, by decide +kernel⟩
abbrev s_stack_in : Stmt := top 43
theorem sc_stack_in : FnScope ["text", "rows", "word", "gap", "rest", "base", "wraps", "row"] ["text"] (defScope s_stack_in) := ⟨rfl, rfl, rfl, by decide +kernel, rfl, by decide +kernel, by decide +kernel⟩
abbrev s_is_length : Stmt := top 46
theorem sc_is_length : FnScope ["value"] ["value"] (defScope s_is_length) := ⟨rfl, rfl, rfl, by decide +kernel, rfl, by decide +kernel, by decide +kernel⟩
abbrev s_stack_told : Stmt := top 47
theorem sc_stack_told : FnScope ["value"] ["value"] (defScope s_stack_told) := ⟨rfl, rfl, rfl, by decide +kernel, rfl, by decide +kernel, by decide +kernel⟩
abbrev s_are_integers : Stmt := top 48
theorem sc_are_integers : FnScope ["value", "count", "part"] ["value", "count"] (defScope s_are_integers) := ⟨rfl, rfl, rfl, by decide +kernel, rfl, by decide +kernel, by decide +kernel⟩
abbrev s_unlike_sizes : Stmt := top 49
theorem sc_unlike_sizes : FnScope ["rest", "longer", "one", "other", "length"] ["rest", "longer"] (defScope s_unlike_sizes) := ⟨rfl, rfl, rfl, by decide +kernel, rfl, by decide +kernel, by decide +kernel⟩
abbrev s_has_size : Stmt := top 50
theorem sc_has_size : FnScope ["rest", "stack"] ["rest"] (defScope s_has_size) := ⟨rfl, rfl, rfl, by decide +kernel, rfl, by decide +kernel, by decide +kernel⟩
abbrev s_shows_payload : Stmt := top 51
theorem sc_shows_payload : FnScope ["rest", "paper", "stack", "bound", "length"] ["rest", "paper"] (defScope s_shows_payload) := ⟨rfl, rfl, rfl, by decide +kernel, rfl, by decide +kernel, by decide +kernel⟩
abbrev s_shows_missed : Stmt := top 52
theorem sc_shows_missed : FnScope ["rest", "paper", "stack", "size"] ["rest", "paper"] (defScope s_shows_missed) := ⟨rfl, rfl, rfl, by decide +kernel, rfl, by decide +kernel, by decide +kernel⟩
abbrev s_shows_doubled : Stmt := top 53
theorem sc_shows_doubled : FnScope ["rest", "paper", "total"] ["rest", "paper"] (defScope s_shows_doubled) := ⟨rfl, rfl, rfl, by decide +kernel, rfl, by decide +kernel, by decide +kernel⟩
abbrev s_steps_told : Stmt := top 54
theorem sc_steps_told : FnScope ["steps", "found", "wraps", "step"] ["steps"] (defScope s_steps_told) := ⟨rfl, rfl, rfl, by decide +kernel, rfl, by decide +kernel, by decide +kernel⟩
abbrev s_first_stop : Stmt := top 55
theorem sc_first_stop : FnScope ["base", "steps", "length", "inner", "place", "step"] ["base", "steps", "length"] (defScope s_first_stop) := ⟨rfl, rfl, rfl, by decide +kernel, rfl, by decide +kernel, by decide +kernel⟩
abbrev s_shows_stopped : Stmt := top 56
theorem sc_shows_stopped : FnScope ["rest", "paper", "steps", "most", "next_one", "place"] ["rest", "paper"] (defScope s_shows_stopped) := ⟨rfl, rfl, rfl, by decide +kernel, rfl, by decide +kernel, by decide +kernel⟩
abbrev s_holds : Stmt := top 57
theorem sc_holds : FnScope ["claim", "paper", "word", "rest"] ["claim", "paper"] (defScope s_holds) := ⟨rfl, rfl, rfl, by decide +kernel, rfl, by decide +kernel, by decide +kernel⟩
abbrev s_L_cell : Stmt := top 59
theorem sc_L_cell : FnScope ["_law_cells", "_law_k", "_law_found", "_law_cell_here"] ["_law_cells", "_law_k"] (defScope s_L_cell) := ⟨rfl, rfl, rfl, by decide +kernel, rfl, by decide +kernel, by decide +kernel⟩
abbrev s_L_pool : Stmt := top 60
theorem sc_L_pool : FnScope ["_law_cell_here", "_law_digits"] ["_law_cell_here"] (defScope s_L_pool) := ⟨rfl, rfl, rfl, by decide +kernel, rfl, by decide +kernel, by decide +kernel⟩
abbrev s_L_draw : Stmt := top 61
theorem sc_L_draw : FnScope ["_law_pool_here", "_law_many", "_law_digit"] ["_law_pool_here", "_law_many"] (defScope s_L_draw) := ⟨rfl, rfl, rfl, by decide +kernel, rfl, by decide +kernel, by decide +kernel⟩
abbrev s_L_far : Stmt := top 62
theorem sc_L_far : FnScope ["_law_pool_here", "_law_cut", "_law_found", "_law_k"] ["_law_pool_here"] (defScope s_L_far) := ⟨rfl, rfl, rfl, by decide +kernel, rfl, by decide +kernel, by decide +kernel⟩
abbrev s_L_radix : Stmt := top 63
theorem sc_L_radix : FnScope ["_law_pool_here", "_law_way"] ["_law_pool_here"] (defScope s_L_radix) := ⟨rfl, rfl, rfl, by decide +kernel, rfl, by decide +kernel, by decide +kernel⟩
abbrev s_L_length : Stmt := top 64
theorem sc_L_length : FnScope ["_law_pool_here", "_law_b", "_law_way", "_law_power_here", "_law_k"] ["_law_pool_here", "_law_b"] (defScope s_L_length) := ⟨rfl, rfl, rfl, by decide +kernel, rfl, by decide +kernel, by decide +kernel⟩
abbrev s_L_constant : Stmt := top 65
theorem sc_L_constant : FnScope ["_law_pool_here", "_law_most", "_law_way"] ["_law_pool_here", "_law_most"] (defScope s_L_constant) := ⟨rfl, rfl, rfl, by decide +kernel, rfl, by decide +kernel, by decide +kernel⟩
abbrev s_L_figures : Stmt := top 66
theorem sc_L_figures : FnScope ["_law_n", "_law_b", "_law_far_here", "_law_count"] ["_law_n", "_law_b"] (defScope s_L_figures) := ⟨rfl, rfl, rfl, by decide +kernel, rfl, by decide +kernel, by decide +kernel⟩
abbrev s_L_is : Stmt := top 67
theorem sc_L_is : FnScope ["_law_thing", "_law_most"] ["_law_thing", "_law_most"] (defScope s_L_is) := ⟨rfl, rfl, rfl, by decide +kernel, rfl, by decide +kernel, by decide +kernel⟩
abbrev s_L_bent : Stmt := top 68
theorem sc_L_bent : FnScope ["_law_pool_here", "_law_thing", "_law_way", "_law_at", "_law_sign"] ["_law_pool_here", "_law_thing"] (defScope s_L_bent) := ⟨rfl, rfl, rfl, by decide +kernel, rfl, by decide +kernel, by decide +kernel⟩
abbrev s_L_truth : Stmt := top 69
theorem sc_L_truth : FnScope ["_law_claim_here", "_law_page_here", "_law_b", "_law_c", "_law_n", "_law_some"] ["_law_claim_here", "_law_page_here"] (defScope s_L_truth) := ⟨rfl, rfl, rfl, by decide +kernel, rfl, by decide +kernel, by decide +kernel⟩
abbrev s_L_power : Stmt := top 70
theorem sc_L_power : FnScope ["_law_pool_here", "_law_b", "_law_c", "_law_power_here", "_law_many", "_law_k"] ["_law_pool_here", "_law_b", "_law_c"] (defScope s_L_power) := ⟨rfl, rfl, rfl, by decide +kernel, rfl, by decide +kernel, by decide +kernel⟩
abbrev s_L_right : Stmt := top 71
theorem sc_L_right : FnScope ["_law_cell_here", "_law_pool_here", "_law_b", "_law_c", "_law_power_here", "_law_many", "_law_n", "_law_pages_here", "_law_claims_here", "_law_claim_here", "_law_page_here", "_law_turn", "_law_some", "_law_other"] ["_law_cell_here"] (defScope s_L_right) := ⟨rfl, rfl, rfl, by decide +kernel, rfl, by decide +kernel, by decide +kernel⟩
abbrev s_law : Stmt := top 72
theorem sc_law : FnScope ["_law_cells", "_law_k"] ["_law_cells"] (defScope s_law) := ⟨rfl, rfl, rfl, by decide +kernel, rfl, by decide +kernel, by decide +kernel⟩
structure Tx (w : World) (K : PySem.W.Frag) (mg : Str → Option Value) : Prop where
  d__wall : DefAt K mg "_wall" s__wall
  d_is_integer : DefAt K mg "is_integer" s_is_integer
  d_is_between : DefAt K mg "is_between" s_is_between
  d_check_length : DefAt K mg "check_length" s_check_length
  d_check_base : DefAt K mg "check_base" s_check_base
  d_figures_of : DefAt K mg "figures_of" s_figures_of
  d_amount_of : DefAt K mg "amount_of" s_amount_of
  d_fault_in : DefAt K mg "fault_in" s_fault_in
  d_begun : DefAt K mg "begun" s_begun
  d_total_of : DefAt K mg "total_of" s_total_of
  d_in_pieces : DefAt K mg "in_pieces" s_in_pieces
  d_wrap_in : DefAt K mg "wrap_in" s_wrap_in
  d_check_wrap : DefAt K mg "check_wrap" s_check_wrap
  d_fineness_of : DefAt K mg "fineness_of" s_fineness_of
  d_check_wraps : DefAt K mg "check_wraps" s_check_wraps
  d_stack_in : DefAt K mg "stack_in" s_stack_in
  d_is_length : DefAt K mg "is_length" s_is_length
  d_stack_told : DefAt K mg "stack_told" s_stack_told
  d_are_integers : DefAt K mg "are_integers" s_are_integers
  d_unlike_sizes : DefAt K mg "unlike_sizes" s_unlike_sizes
  d_has_size : DefAt K mg "has_size" s_has_size
  d_shows_payload : DefAt K mg "shows_payload" s_shows_payload
  d_shows_missed : DefAt K mg "shows_missed" s_shows_missed
  d_shows_doubled : DefAt K mg "shows_doubled" s_shows_doubled
  d_steps_told : DefAt K mg "steps_told" s_steps_told
  d_first_stop : DefAt K mg "first_stop" s_first_stop
  d_shows_stopped : DefAt K mg "shows_stopped" s_shows_stopped
  d_holds : DefAt K mg "holds" s_holds
  d_L_cell : DefAt K mg "_law_cell" s_L_cell
  d_L_pool : DefAt K mg "_law_pool" s_L_pool
  d_L_draw : DefAt K mg "_law_draw" s_L_draw
  d_L_far : DefAt K mg "_law_far" s_L_far
  d_L_radix : DefAt K mg "_law_radix" s_L_radix
  d_L_length : DefAt K mg "_law_length" s_L_length
  d_L_constant : DefAt K mg "_law_constant" s_L_constant
  d_L_figures : DefAt K mg "_law_figures" s_L_figures
  d_L_is : DefAt K mg "_law_is" s_L_is
  d_L_bent : DefAt K mg "_law_bent" s_L_bent
  d_L_truth : DefAt K mg "_law_truth" s_L_truth
  d_L_power : DefAt K mg "_law_power" s_L_power
  d_L_right : DefAt K mg "_law_right" s_L_right
  d_law : DefAt K mg "law" s_law
  b_abs : mg "abs" = none
  b_all : mg "all" = none
  b_bool : mg "bool" = none
  b_divmod : mg "divmod" = none
  b_enumerate : mg "enumerate" = none
  b_int : mg "int" = none
  b_isinstance : mg "isinstance" = none
  b_len : mg "len" = none
  b_max : mg "max" = none
  b_min : mg "min" = none
  b_range : mg "range" = none
  b_repr : mg "repr" = none
  b_str : mg "str" = none
  b_tuple : mg "tuple" = none
  c_MOST_LENGTH : ∃ u, mg "MOST_LENGTH" = some (.int 1000000000000000000000000000000000000000000000000000000000000 u)
  c_MOST_WRAPS : ∃ u, mg "MOST_WRAPS" = some (.int 6 u)
  c_MOST_FINENESS : ∃ u, mg "MOST_FINENESS" = some (.int 120 u)
  c_MOST_CONSTANT : ∃ u, mg "MOST_CONSTANT" = some (.int 1000 u)
  c_LEAST_BASE : ∃ u, mg "LEAST_BASE" = some (.int 2 u)
  c_MOST_BASE : ∃ u, mg "MOST_BASE" = some (.int 256 u)
  c_MOST_PIECE : ∃ u, mg "MOST_PIECE" = some (.int 60 u)
  c_MOST_CODE : ∃ u, mg "MOST_CODE" = some (.int 120 u)
  c_LAST_LENGTH : ∃ u, mg "LAST_LENGTH" = some (.int 999999999999999999999999999999999999999999999999999999999999 u)
  c_TENS : ∃ u, mg "TENS" = some (.str "0123456789" u)
  k_RANGES : mg "RANGES" = some (.ref (He.ga K "RANGES"))
  kd : ∃ es n, KDict K w (He.ga K "RANGES") es n
  rg : ∀ a : Wr, Rng K (He.ga K "RANGES") a.kind a.rng
def dd__wall : He.DefD := ⟨("_wall", none), "_wall", "_wall", defArgs s__wall, defBody s__wall, defScope s__wall, [], []⟩
def dd_is_integer : He.DefD := ⟨("is_integer", none), "is_integer", "is_integer", defArgs s_is_integer, defBody s_is_integer, defScope s_is_integer, [], []⟩
def dd_is_between : He.DefD := ⟨("is_between", none), "is_between", "is_between", defArgs s_is_between, defBody s_is_between, defScope s_is_between, [], []⟩
def dd_check_length : He.DefD := ⟨("check_length", none), "check_length", "check_length", defArgs s_check_length, defBody s_check_length, defScope s_check_length, [], []⟩
def dd_check_base : He.DefD := ⟨("check_base", none), "check_base", "check_base", defArgs s_check_base, defBody s_check_base, defScope s_check_base, [], []⟩
def dd_figures_of : He.DefD := ⟨("figures_of", none), "figures_of", "figures_of", defArgs s_figures_of, defBody s_figures_of, defScope s_figures_of, [], []⟩
def dd_amount_of : He.DefD := ⟨("amount_of", none), "amount_of", "amount_of", defArgs s_amount_of, defBody s_amount_of, defScope s_amount_of, [], []⟩
def dd_fault_in : He.DefD := ⟨("fault_in", none), "fault_in", "fault_in", defArgs s_fault_in, defBody s_fault_in, defScope s_fault_in, [], []⟩
def dd_begun : He.DefD := ⟨("begun", none), "begun", "begun", defArgs s_begun, defBody s_begun, defScope s_begun, [], []⟩
def dd_total_of : He.DefD := ⟨("total_of", none), "total_of", "total_of", defArgs s_total_of, defBody s_total_of, defScope s_total_of, [], []⟩
def dd_in_pieces : He.DefD := ⟨("in_pieces", none), "in_pieces", "in_pieces", defArgs s_in_pieces, defBody s_in_pieces, defScope s_in_pieces, [], []⟩
def dd_wrap_in : He.DefD := ⟨("wrap_in", none), "wrap_in", "wrap_in", defArgs s_wrap_in, defBody s_wrap_in, defScope s_wrap_in, [], []⟩
def dd_check_wrap : He.DefD := ⟨("check_wrap", none), "check_wrap", "check_wrap", defArgs s_check_wrap, defBody s_check_wrap, defScope s_check_wrap, [], []⟩
def dd_fineness_of : He.DefD := ⟨("fineness_of", none), "fineness_of", "fineness_of", defArgs s_fineness_of, defBody s_fineness_of, defScope s_fineness_of, [], []⟩
def dd_check_wraps : He.DefD := ⟨("check_wraps", none), "check_wraps", "check_wraps", defArgs s_check_wraps, defBody s_check_wraps, defScope s_check_wraps, [], []⟩
def dd_stack_in : He.DefD := ⟨("stack_in", none), "stack_in", "stack_in", defArgs s_stack_in, defBody s_stack_in, defScope s_stack_in, [], []⟩
def dd_is_length : He.DefD := ⟨("is_length", none), "is_length", "is_length", defArgs s_is_length, defBody s_is_length, defScope s_is_length, [], []⟩
def dd_stack_told : He.DefD := ⟨("stack_told", none), "stack_told", "stack_told", defArgs s_stack_told, defBody s_stack_told, defScope s_stack_told, [], []⟩
def dd_are_integers : He.DefD := ⟨("are_integers", none), "are_integers", "are_integers", defArgs s_are_integers, defBody s_are_integers, defScope s_are_integers, [], []⟩
def dd_unlike_sizes : He.DefD := ⟨("unlike_sizes", none), "unlike_sizes", "unlike_sizes", defArgs s_unlike_sizes, defBody s_unlike_sizes, defScope s_unlike_sizes, [], []⟩
def dd_has_size : He.DefD := ⟨("has_size", none), "has_size", "has_size", defArgs s_has_size, defBody s_has_size, defScope s_has_size, [], []⟩
def dd_shows_payload : He.DefD := ⟨("shows_payload", none), "shows_payload", "shows_payload", defArgs s_shows_payload, defBody s_shows_payload, defScope s_shows_payload, [], []⟩
def dd_shows_missed : He.DefD := ⟨("shows_missed", none), "shows_missed", "shows_missed", defArgs s_shows_missed, defBody s_shows_missed, defScope s_shows_missed, [], []⟩
def dd_shows_doubled : He.DefD := ⟨("shows_doubled", none), "shows_doubled", "shows_doubled", defArgs s_shows_doubled, defBody s_shows_doubled, defScope s_shows_doubled, [], []⟩
def dd_steps_told : He.DefD := ⟨("steps_told", none), "steps_told", "steps_told", defArgs s_steps_told, defBody s_steps_told, defScope s_steps_told, [], []⟩
def dd_first_stop : He.DefD := ⟨("first_stop", none), "first_stop", "first_stop", defArgs s_first_stop, defBody s_first_stop, defScope s_first_stop, [], []⟩
def dd_shows_stopped : He.DefD := ⟨("shows_stopped", none), "shows_stopped", "shows_stopped", defArgs s_shows_stopped, defBody s_shows_stopped, defScope s_shows_stopped, [], []⟩
def dd_holds : He.DefD := ⟨("holds", none), "holds", "holds", defArgs s_holds, defBody s_holds, defScope s_holds, [], []⟩
def dd_L_cell : He.DefD := ⟨("_law_cell", none), "_law_cell", "_law_cell", defArgs s_L_cell, defBody s_L_cell, defScope s_L_cell, [], []⟩
def dd_L_pool : He.DefD := ⟨("_law_pool", none), "_law_pool", "_law_pool", defArgs s_L_pool, defBody s_L_pool, defScope s_L_pool, [], []⟩
def dd_L_draw : He.DefD := ⟨("_law_draw", none), "_law_draw", "_law_draw", defArgs s_L_draw, defBody s_L_draw, defScope s_L_draw, [], []⟩
def dd_L_far : He.DefD := ⟨("_law_far", none), "_law_far", "_law_far", defArgs s_L_far, defBody s_L_far, defScope s_L_far, [], []⟩
def dd_L_radix : He.DefD := ⟨("_law_radix", none), "_law_radix", "_law_radix", defArgs s_L_radix, defBody s_L_radix, defScope s_L_radix, [], []⟩
def dd_L_length : He.DefD := ⟨("_law_length", none), "_law_length", "_law_length", defArgs s_L_length, defBody s_L_length, defScope s_L_length, [], []⟩
def dd_L_constant : He.DefD := ⟨("_law_constant", none), "_law_constant", "_law_constant", defArgs s_L_constant, defBody s_L_constant, defScope s_L_constant, [], []⟩
def dd_L_figures : He.DefD := ⟨("_law_figures", none), "_law_figures", "_law_figures", defArgs s_L_figures, defBody s_L_figures, defScope s_L_figures, [], []⟩
def dd_L_is : He.DefD := ⟨("_law_is", none), "_law_is", "_law_is", defArgs s_L_is, defBody s_L_is, defScope s_L_is, [], []⟩
def dd_L_bent : He.DefD := ⟨("_law_bent", none), "_law_bent", "_law_bent", defArgs s_L_bent, defBody s_L_bent, defScope s_L_bent, [], []⟩
def dd_L_truth : He.DefD := ⟨("_law_truth", none), "_law_truth", "_law_truth", defArgs s_L_truth, defBody s_L_truth, defScope s_L_truth, [], []⟩
def dd_L_power : He.DefD := ⟨("_law_power", none), "_law_power", "_law_power", defArgs s_L_power, defBody s_L_power, defScope s_L_power, [], []⟩
def dd_L_right : He.DefD := ⟨("_law_right", none), "_law_right", "_law_right", defArgs s_L_right, defBody s_L_right, defScope s_L_right, [], []⟩
def dd_law : He.DefD := ⟨("law", none), "law", "law", defArgs s_law, defBody s_law, defScope s_law, [], []⟩
def fnL : List He.DefD := [dd__wall, dd_is_integer, dd_is_between, dd_check_length, dd_check_base, dd_figures_of, dd_amount_of, dd_fault_in, dd_begun, dd_total_of, dd_in_pieces, dd_wrap_in, dd_check_wrap, dd_fineness_of, dd_check_wraps, dd_stack_in, dd_is_length, dd_stack_told, dd_are_integers, dd_unlike_sizes, dd_has_size, dd_shows_payload, dd_shows_missed, dd_shows_doubled, dd_steps_told, dd_first_stop, dd_shows_stopped, dd_holds, dd_L_cell, dd_L_pool, dd_L_draw, dd_L_far, dd_L_radix, dd_L_length, dd_L_constant, dd_L_figures, dd_L_is, dd_L_bent, dd_L_truth, dd_L_power, dd_L_right, dd_law]
def faL : List He.Fa := [.glo "_wall", .glo "is_integer", .glo "is_between", .glo "check_length", .glo "check_base", .glo "figures_of", .glo "amount_of", .glo "fault_in", .glo "begun", .glo "total_of", .glo "in_pieces", .glo "wrap_in", .glo "check_wrap", .glo "fineness_of", .glo "check_wraps", .glo "stack_in", .glo "is_length", .glo "stack_told", .glo "are_integers", .glo "unlike_sizes", .glo "has_size", .glo "shows_payload", .glo "shows_missed", .glo "shows_doubled", .glo "steps_told", .glo "first_stop", .glo "shows_stopped", .glo "holds", .glo "_law_cell", .glo "_law_pool", .glo "_law_draw", .glo "_law_far", .glo "_law_radix", .glo "_law_length", .glo "_law_constant", .glo "_law_figures", .glo "_law_is", .glo "_law_bent", .glo "_law_truth", .glo "_law_power", .glo "_law_right", .glo "law", .free "abs", .free "all", .free "bool", .free "divmod", .free "enumerate", .free "int", .free "isinstance", .free "len", .free "max", .free "min", .free "range", .free "repr", .free "str", .free "tuple", .int "MOST_LENGTH" 1000000000000000000000000000000000000000000000000000000000000, .int "MOST_WRAPS" 6, .int "MOST_FINENESS" 120, .int "MOST_CONSTANT" 1000, .int "LEAST_BASE" 2, .int "MOST_BASE" 256, .int "MOST_PIECE" 60, .int "MOST_CODE" 120, .int "LAST_LENGTH" 999999999999999999999999999999999999999999999999999999999999, .str "TENS" "0123456789", .glo "RANGES"]
def loose0 : List Str := ["_wall", "is_integer", "is_between", "check_length", "check_base", "figures_of", "amount_of", "fault_in", "begun", "total_of", "in_pieces", "wrap_in", "check_wrap", "fineness_of", "check_wraps", "stack_in", "is_length", "stack_told", "are_integers", "unlike_sizes", "has_size", "shows_payload", "shows_missed", "shows_doubled", "steps_told", "first_stop", "shows_stopped", "holds", "_law_cell", "_law_pool"]
def loose1 : List Str := ["_law_draw", "_law_far", "_law_radix", "_law_length", "_law_constant", "_law_figures", "_law_is", "_law_bent", "_law_truth", "_law_power", "_law_right", "Misfit", "Excess", "NotAWrap", "InvalidKind", "InvalidBase", "InvalidLength", "InvalidNumber", "InvalidText", "InvalidNumbers", "InvalidWraps", "TooFine", "TooManyWraps", "Wrap", "Stack", "MOST_LENGTH", "MOST_WRAPS", "MOST_FINENESS", "MOST_CONSTANT", "TENS"]
def loose2 : List Str := ["LEAST_BASE", "MOST_BASE", "MOST_PIECE", "MOST_CODE", "RANGES", "LAST_LENGTH"]
def looseL : List Str := loose0 ++ loose1 ++ loose2
abbrev RR : PySem.W.OpenRow := PySem.W.OpenLaw.row PySem.Challenge.rw_sizestacks_k57_doubled_judged
def tabL : List He.Tab := [(fun K => He.ga K "RANGES", ["plus", "told", "whole", "pieces", "cut", "coded", "filled"])]
def fbL (K : PySem.W.Frag) : Bool := [rngB K (He.ga K "RANGES") (Wr.plus 0).kind (Wr.plus 0).rng, rngB K (He.ga K "RANGES") (Wr.told 0).kind (Wr.told 0).rng, rngB K (He.ga K "RANGES") (Wr.whole 0).kind (Wr.whole 0).rng, rngB K (He.ga K "RANGES") (Wr.pieces 0 0).kind (Wr.pieces 0 0).rng, rngB K (He.ga K "RANGES") (Wr.cut 0 0).kind (Wr.cut 0 0).rng, rngB K (He.ga K "RANGES") (Wr.coded 0 0).kind (Wr.coded 0 0).rng, rngB K (He.ga K "RANGES") (Wr.filled 0).kind (Wr.filled 0).rng].all id
abbrev hk : PySem.W.Hook := hookX 5 fbL faL fnL tabL
def ob (z : PySem.W.SharedT) : AlX := obsXG 5 fbL faL fnL tabL (HandSHeadRun.getT z)
theorem ob_eq (z : PySem.W.SharedT) : ob z = hk.obs z.abs := obsXG_eq (HandSHeadRun.getT_eq z)
theorem runF (w : World) : HandSHeadRun.RunEq RR (PySem.W.view RR.prog [72]) hk ob 30000 looseL (w.withFollow "special-get-raises" false) := by
  intro os
  kernel_rfl
theorem runT (w : World) : HandSHeadRun.RunEq RR (PySem.W.view RR.prog [72]) hk ob 30000 looseL (w.withFollow "special-get-raises" true) := by
  intro os
  kernel_rfl
theorem run (w : World) : HandSHeadRun.RunEq RR (PySem.W.view RR.prog [72]) hk ob 30000 looseL w :=
  PySem.W.byRow2 "special-get-raises" (P := fun w => HandSHeadRun.RunEq RR (PySem.W.view RR.prog [72]) hk ob 30000 looseL w) runF runT w
theorem tx_of {w : World} {K : PySem.W.Frag} {h : Heap} {mg : Str → Option Value} (X : K.In h) (G : h.Ns mainGlobals mg) (c0 : SaysX fbL faL fnL tabL w K) : Tx w K mg := by
  have c : He.SaysD faL fnL K := c0.t.d
  exact {
    d__wall := let ⟨fd, F⟩ := c.def_ 0 (d := dd__wall) rfl; ⟨_, fd, F, He.glo_ok X G (c.fact 0 (f := .glo "_wall") rfl)⟩,
    d_is_integer := let ⟨fd, F⟩ := c.def_ 1 (d := dd_is_integer) rfl; ⟨_, fd, F, He.glo_ok X G (c.fact 1 (f := .glo "is_integer") rfl)⟩,
    d_is_between := let ⟨fd, F⟩ := c.def_ 2 (d := dd_is_between) rfl; ⟨_, fd, F, He.glo_ok X G (c.fact 2 (f := .glo "is_between") rfl)⟩,
    d_check_length := let ⟨fd, F⟩ := c.def_ 3 (d := dd_check_length) rfl; ⟨_, fd, F, He.glo_ok X G (c.fact 3 (f := .glo "check_length") rfl)⟩,
    d_check_base := let ⟨fd, F⟩ := c.def_ 4 (d := dd_check_base) rfl; ⟨_, fd, F, He.glo_ok X G (c.fact 4 (f := .glo "check_base") rfl)⟩,
    d_figures_of := let ⟨fd, F⟩ := c.def_ 5 (d := dd_figures_of) rfl; ⟨_, fd, F, He.glo_ok X G (c.fact 5 (f := .glo "figures_of") rfl)⟩,
    d_amount_of := let ⟨fd, F⟩ := c.def_ 6 (d := dd_amount_of) rfl; ⟨_, fd, F, He.glo_ok X G (c.fact 6 (f := .glo "amount_of") rfl)⟩,
    d_fault_in := let ⟨fd, F⟩ := c.def_ 7 (d := dd_fault_in) rfl; ⟨_, fd, F, He.glo_ok X G (c.fact 7 (f := .glo "fault_in") rfl)⟩,
    d_begun := let ⟨fd, F⟩ := c.def_ 8 (d := dd_begun) rfl; ⟨_, fd, F, He.glo_ok X G (c.fact 8 (f := .glo "begun") rfl)⟩,
    d_total_of := let ⟨fd, F⟩ := c.def_ 9 (d := dd_total_of) rfl; ⟨_, fd, F, He.glo_ok X G (c.fact 9 (f := .glo "total_of") rfl)⟩,
    d_in_pieces := let ⟨fd, F⟩ := c.def_ 10 (d := dd_in_pieces) rfl; ⟨_, fd, F, He.glo_ok X G (c.fact 10 (f := .glo "in_pieces") rfl)⟩,
    d_wrap_in := let ⟨fd, F⟩ := c.def_ 11 (d := dd_wrap_in) rfl; ⟨_, fd, F, He.glo_ok X G (c.fact 11 (f := .glo "wrap_in") rfl)⟩,
    d_check_wrap := let ⟨fd, F⟩ := c.def_ 12 (d := dd_check_wrap) rfl; ⟨_, fd, F, He.glo_ok X G (c.fact 12 (f := .glo "check_wrap") rfl)⟩,
    d_fineness_of := let ⟨fd, F⟩ := c.def_ 13 (d := dd_fineness_of) rfl; ⟨_, fd, F, He.glo_ok X G (c.fact 13 (f := .glo "fineness_of") rfl)⟩,
    d_check_wraps := let ⟨fd, F⟩ := c.def_ 14 (d := dd_check_wraps) rfl; ⟨_, fd, F, He.glo_ok X G (c.fact 14 (f := .glo "check_wraps") rfl)⟩,
    d_stack_in := let ⟨fd, F⟩ := c.def_ 15 (d := dd_stack_in) rfl; ⟨_, fd, F, He.glo_ok X G (c.fact 15 (f := .glo "stack_in") rfl)⟩,
    d_is_length := let ⟨fd, F⟩ := c.def_ 16 (d := dd_is_length) rfl; ⟨_, fd, F, He.glo_ok X G (c.fact 16 (f := .glo "is_length") rfl)⟩,
    d_stack_told := let ⟨fd, F⟩ := c.def_ 17 (d := dd_stack_told) rfl; ⟨_, fd, F, He.glo_ok X G (c.fact 17 (f := .glo "stack_told") rfl)⟩,
    d_are_integers := let ⟨fd, F⟩ := c.def_ 18 (d := dd_are_integers) rfl; ⟨_, fd, F, He.glo_ok X G (c.fact 18 (f := .glo "are_integers") rfl)⟩,
    d_unlike_sizes := let ⟨fd, F⟩ := c.def_ 19 (d := dd_unlike_sizes) rfl; ⟨_, fd, F, He.glo_ok X G (c.fact 19 (f := .glo "unlike_sizes") rfl)⟩,
    d_has_size := let ⟨fd, F⟩ := c.def_ 20 (d := dd_has_size) rfl; ⟨_, fd, F, He.glo_ok X G (c.fact 20 (f := .glo "has_size") rfl)⟩,
    d_shows_payload := let ⟨fd, F⟩ := c.def_ 21 (d := dd_shows_payload) rfl; ⟨_, fd, F, He.glo_ok X G (c.fact 21 (f := .glo "shows_payload") rfl)⟩,
    d_shows_missed := let ⟨fd, F⟩ := c.def_ 22 (d := dd_shows_missed) rfl; ⟨_, fd, F, He.glo_ok X G (c.fact 22 (f := .glo "shows_missed") rfl)⟩,
    d_shows_doubled := let ⟨fd, F⟩ := c.def_ 23 (d := dd_shows_doubled) rfl; ⟨_, fd, F, He.glo_ok X G (c.fact 23 (f := .glo "shows_doubled") rfl)⟩,
    d_steps_told := let ⟨fd, F⟩ := c.def_ 24 (d := dd_steps_told) rfl; ⟨_, fd, F, He.glo_ok X G (c.fact 24 (f := .glo "steps_told") rfl)⟩,
    d_first_stop := let ⟨fd, F⟩ := c.def_ 25 (d := dd_first_stop) rfl; ⟨_, fd, F, He.glo_ok X G (c.fact 25 (f := .glo "first_stop") rfl)⟩,
    d_shows_stopped := let ⟨fd, F⟩ := c.def_ 26 (d := dd_shows_stopped) rfl; ⟨_, fd, F, He.glo_ok X G (c.fact 26 (f := .glo "shows_stopped") rfl)⟩,
    d_holds := let ⟨fd, F⟩ := c.def_ 27 (d := dd_holds) rfl; ⟨_, fd, F, He.glo_ok X G (c.fact 27 (f := .glo "holds") rfl)⟩,
    d_L_cell := let ⟨fd, F⟩ := c.def_ 28 (d := dd_L_cell) rfl; ⟨_, fd, F, He.glo_ok X G (c.fact 28 (f := .glo "_law_cell") rfl)⟩,
    d_L_pool := let ⟨fd, F⟩ := c.def_ 29 (d := dd_L_pool) rfl; ⟨_, fd, F, He.glo_ok X G (c.fact 29 (f := .glo "_law_pool") rfl)⟩,
    d_L_draw := let ⟨fd, F⟩ := c.def_ 30 (d := dd_L_draw) rfl; ⟨_, fd, F, He.glo_ok X G (c.fact 30 (f := .glo "_law_draw") rfl)⟩,
    d_L_far := let ⟨fd, F⟩ := c.def_ 31 (d := dd_L_far) rfl; ⟨_, fd, F, He.glo_ok X G (c.fact 31 (f := .glo "_law_far") rfl)⟩,
    d_L_radix := let ⟨fd, F⟩ := c.def_ 32 (d := dd_L_radix) rfl; ⟨_, fd, F, He.glo_ok X G (c.fact 32 (f := .glo "_law_radix") rfl)⟩,
    d_L_length := let ⟨fd, F⟩ := c.def_ 33 (d := dd_L_length) rfl; ⟨_, fd, F, He.glo_ok X G (c.fact 33 (f := .glo "_law_length") rfl)⟩,
    d_L_constant := let ⟨fd, F⟩ := c.def_ 34 (d := dd_L_constant) rfl; ⟨_, fd, F, He.glo_ok X G (c.fact 34 (f := .glo "_law_constant") rfl)⟩,
    d_L_figures := let ⟨fd, F⟩ := c.def_ 35 (d := dd_L_figures) rfl; ⟨_, fd, F, He.glo_ok X G (c.fact 35 (f := .glo "_law_figures") rfl)⟩,
    d_L_is := let ⟨fd, F⟩ := c.def_ 36 (d := dd_L_is) rfl; ⟨_, fd, F, He.glo_ok X G (c.fact 36 (f := .glo "_law_is") rfl)⟩,
    d_L_bent := let ⟨fd, F⟩ := c.def_ 37 (d := dd_L_bent) rfl; ⟨_, fd, F, He.glo_ok X G (c.fact 37 (f := .glo "_law_bent") rfl)⟩,
    d_L_truth := let ⟨fd, F⟩ := c.def_ 38 (d := dd_L_truth) rfl; ⟨_, fd, F, He.glo_ok X G (c.fact 38 (f := .glo "_law_truth") rfl)⟩,
    d_L_power := let ⟨fd, F⟩ := c.def_ 39 (d := dd_L_power) rfl; ⟨_, fd, F, He.glo_ok X G (c.fact 39 (f := .glo "_law_power") rfl)⟩,
    d_L_right := let ⟨fd, F⟩ := c.def_ 40 (d := dd_L_right) rfl; ⟨_, fd, F, He.glo_ok X G (c.fact 40 (f := .glo "_law_right") rfl)⟩,
    d_law := let ⟨fd, F⟩ := c.def_ 41 (d := dd_law) rfl; ⟨_, fd, F, He.glo_ok X G (c.fact 41 (f := .glo "law") rfl)⟩,
    b_abs := He.free_ok X G (c.fact 42 (f := .free "abs") rfl),
    b_all := He.free_ok X G (c.fact 43 (f := .free "all") rfl),
    b_bool := He.free_ok X G (c.fact 44 (f := .free "bool") rfl),
    b_divmod := He.free_ok X G (c.fact 45 (f := .free "divmod") rfl),
    b_enumerate := He.free_ok X G (c.fact 46 (f := .free "enumerate") rfl),
    b_int := He.free_ok X G (c.fact 47 (f := .free "int") rfl),
    b_isinstance := He.free_ok X G (c.fact 48 (f := .free "isinstance") rfl),
    b_len := He.free_ok X G (c.fact 49 (f := .free "len") rfl),
    b_max := He.free_ok X G (c.fact 50 (f := .free "max") rfl),
    b_min := He.free_ok X G (c.fact 51 (f := .free "min") rfl),
    b_range := He.free_ok X G (c.fact 52 (f := .free "range") rfl),
    b_repr := He.free_ok X G (c.fact 53 (f := .free "repr") rfl),
    b_str := He.free_ok X G (c.fact 54 (f := .free "str") rfl),
    b_tuple := He.free_ok X G (c.fact 55 (f := .free "tuple") rfl),
    c_MOST_LENGTH := He.int_ok X G (c.fact 56 (f := .int "MOST_LENGTH" 1000000000000000000000000000000000000000000000000000000000000) rfl),
    c_MOST_WRAPS := He.int_ok X G (c.fact 57 (f := .int "MOST_WRAPS" 6) rfl),
    c_MOST_FINENESS := He.int_ok X G (c.fact 58 (f := .int "MOST_FINENESS" 120) rfl),
    c_MOST_CONSTANT := He.int_ok X G (c.fact 59 (f := .int "MOST_CONSTANT" 1000) rfl),
    c_LEAST_BASE := He.int_ok X G (c.fact 60 (f := .int "LEAST_BASE" 2) rfl),
    c_MOST_BASE := He.int_ok X G (c.fact 61 (f := .int "MOST_BASE" 256) rfl),
    c_MOST_PIECE := He.int_ok X G (c.fact 62 (f := .int "MOST_PIECE" 60) rfl),
    c_MOST_CODE := He.int_ok X G (c.fact 63 (f := .int "MOST_CODE" 120) rfl),
    c_LAST_LENGTH := He.int_ok X G (c.fact 64 (f := .int "LAST_LENGTH" 999999999999999999999999999999999999999999999999999999999999) rfl),
    c_TENS := He.str_ok X G (c.fact 65 (f := .str "TENS" "0123456789") rfl),
    k_RANGES := He.glo_ok X G (c.fact 66 (f := .glo "RANGES") rfl),
    kd := c0.t.tab 0 (t := (fun K => He.ga K "RANGES", ["plus", "told", "whole", "pieces", "cut", "coded", "filled"])) rfl,
    rg := fun a => by
      cases a with
      | plus _ => exact rngB_ok (K := K) (kd := (Wr.plus 0).kind) (qs := (Wr.plus 0).rng) (List.all_eq_true.mp c0.b _ (.head _))
      | told _ => exact rngB_ok (K := K) (kd := (Wr.told 0).kind) (qs := (Wr.told 0).rng) (List.all_eq_true.mp c0.b _ (.tail _ (.head _)))
      | whole _ => exact rngB_ok (K := K) (kd := (Wr.whole 0).kind) (qs := (Wr.whole 0).rng) (List.all_eq_true.mp c0.b _ (.tail _ (.tail _ (.head _))))
      | pieces _ _ => exact rngB_ok (K := K) (kd := (Wr.pieces 0 0).kind) (qs := (Wr.pieces 0 0).rng) (List.all_eq_true.mp c0.b _ (.tail _ (.tail _ (.tail _ (.head _)))))
      | cut _ _ => exact rngB_ok (K := K) (kd := (Wr.cut 0 0).kind) (qs := (Wr.cut 0 0).rng) (List.all_eq_true.mp c0.b _ (.tail _ (.tail _ (.tail _ (.tail _ (.head _))))))
      | coded _ _ => exact rngB_ok (K := K) (kd := (Wr.coded 0 0).kind) (qs := (Wr.coded 0 0).rng) (List.all_eq_true.mp c0.b _ (.tail _ (.tail _ (.tail _ (.tail _ (.tail _ (.head _)))))))
      | filled _ => exact rngB_ok (K := K) (kd := (Wr.filled 0).kind) (qs := (Wr.filled 0).rng) (List.all_eq_true.mp c0.b _ (.tail _ (.tail _ (.tail _ (.tail _ (.tail _ (.tail _ (.head _)))))))) }
def spLaw (K : PySem.W.Frag) : Sp := fun vs H Q _ => ∃ (a : Addr) (ns : List Int), vs = [.ref a] ∧ SqL K H a (ns.map V.int) ∧ ns.length ≤ 63 ∧ (∀ z ∈ ns, Builtin.Int.intBits z ≤ 1048576) ∧ ∀ H', Q (.bl true) H'

set_option pp.maxSteps 900
/-! ### any thing -/
def tyD : PyData → String
  | .none => "NoneType"
  | .bool _ => "bool"
  | .int _ => "int"
  | .str _ => "str"
  | .list _ => "list"
  | .tuple _ => "tuple"
  | .dict _ => "dict"
theorem dp_ty {K : PySem.W.Frag} {H : Hp} {v : V} {d : PyData} (h : Dp K H v d) : TyX K H v (.type (tyD d)) := by
  cases h with
  | non => exact .base .non
  | bl b => exact .base (.bl b)
  | int i => exact .base (.int i)
  | str x => exact .base (.str x)
  | lst h _ =>
    rcases h with (h | ⟨o, h⟩) | ⟨o, _, _, h, c, _⟩
    · exact .base (.lst h)
    · exact .base (.frz h)
    · exact .kList h c
  | tup h _ =>
    rcases h with (h | ⟨o, h⟩) | ⟨o, _, _, h, c, _⟩
    · exact .base (.tup h)
    · exact .fTuple h
    · exact .kTuple h c
def spFig : Sp := fun vs H Q _ => ∃ n b : Int, vs = [.int n, .int b] ∧ 2 ≤ b ∧ b ≤ 256 ∧ n < 2 ^ 4000 ∧ ∀ k, IsF b n k → Q (.int k) H
def isI : PyData → Bool
  | .int _ => true
  | _ => false
def inR (lo hi : Int) : PyData → Bool
  | .int i => decide (lo ≤ i ∧ i ≤ hi)
  | _ => false
def spIsInt (K : PySem.W.Frag) : Sp := fun vs H Q _ => ∃ (v : V) (d : PyData), vs = [v] ∧ Dp K H v d ∧ Q (.bl (isI d)) H
def spBetween (K : PySem.W.Frag) : Sp := fun vs H Q _ => ∃ (v : V) (d : PyData) (l m : Int), vs = [v, .int l, .int m] ∧ Dp K H v d ∧ Q (.bl (inR l m d)) H
def spIsLen (K : PySem.W.Frag) : Sp := fun vs H Q _ => ∃ (v : V) (d : PyData), vs = [v] ∧ Dp K H v d ∧ Q (.bl (inR 0 (10 ^ 60 - 1) d)) H
section
variable {P : Program} {w : World} {K : PySem.W.Frag} {mg : Str → Option Value} {base : Heap}
theorem ok_is_integer (T : Tx w K mg) : Prom P w K mg base CX0 1 "is_integer" s_is_integer ["value"] (spIsInt K) := by
  refine Prom.of T.d_is_integer sc_is_integer (fun vs H Q E h => ?_) (fun _ _ _ _ _ _ us hl => match us, hl with | [_], _ => rfl) (fun f cdv A outer s H vs Q E hr h => ?_)
  · obtain ⟨v, d, rfl, _⟩ := h
    rfl
  · obtain ⟨v, d, rfl, hd, k⟩ := h
    refine ⟨_, (pss_one (ps_ret (pe_and (pe_callB call_isi (by rfl) T.b_isinstance (by decide +kernel) (pa_cons (pv 0) (pa_cons (pe_bltn (v := .ty "int") (by rfl) T.b_int (by decide +kernel) rfl) pa_nil))) (pe_and (pe_cmpR op_isnotBl (pv 0) pe_bl (nomark _)) (pe_one (pe_cmpR op_isnotBl (pv 0) pe_bl (nomark _))))))), ?_⟩
    cases hd with
    | int i =>
      refine ⟨_, rfl, _, _, _, _, true, rfl, .ty _, .base (.int _), kit_ty (by decide +kernel), true, rfl, iteT ?_⟩
      refine ⟨_, rfl, _, rfl, true, rfl, iteT ?_⟩
      exact ⟨_, rfl, _, rfl, k⟩
    | bl b =>
      refine ⟨_, rfl, _, _, _, _, true, rfl, .ty _, .base (.bl _), kit_ty (by decide +kernel), true, rfl, iteT ?_⟩
      cases b with
      | true => exact ⟨_, rfl, _, rfl, false, rfl, iteF k⟩
      | false =>
        refine ⟨_, rfl, _, rfl, true, rfl, iteT ?_⟩
        exact ⟨_, rfl, _, rfl, k⟩
    | non => exact ⟨_, rfl, _, _, _, _, false, rfl, .ty _, dp_ty .non, kit_ty (a := "NoneType") (by decide +kernel), false, rfl, iteF k⟩
    | str x => exact ⟨_, rfl, _, _, _, _, false, rfl, .ty _, dp_ty (.str x), kit_ty (a := "str") (by decide +kernel), false, rfl, iteF k⟩
    | lst h1 h2 => exact ⟨_, rfl, _, _, _, _, false, rfl, .ty _, dp_ty (.lst h1 h2), kit_ty (a := "list") (by decide +kernel), false, rfl, iteF k⟩
    | tup h1 h2 => exact ⟨_, rfl, _, _, _, _, false, rfl, .ty _, dp_ty (.tup h1 h2), kit_ty (a := "tuple") (by decide +kernel), false, rfl, iteF k⟩
theorem ok_is_between (T : Tx w K mg) : Prom P w K mg base CX0 2 "is_between" s_is_between ["value", "least", "most"] (spBetween K) := by
  refine Prom.of T.d_is_between sc_is_between (fun vs H Q E h => ?_) (fun _ _ _ _ _ _ us hl => match us, hl with | [_, _, _], _ => rfl) (fun f cdv A outer s H vs Q E hr h => ?_)
  · obtain ⟨v, d, l, m, rfl, _⟩ := h
    rfl
  · obtain ⟨v, d, l, m, rfl, hd, k⟩ := h
    refine ⟨_, (pss_one (ps_ret (pe_and (pe_callP (ok_is_integer T) (hr.mono (by decide)) (by rfl) pass0 (pa_cons (pv 0) pa_nil)) (pe_one (pe_chain op_le op_le (pv 1) (pv 0) (pv 2)))))), ?_⟩
    refine ⟨_, rfl, v, d, rfl, hd, isI d, rfl, ?_⟩
    cases hd with
    | int v =>
      refine iteT ?_
      refine ⟨_, rfl, _, rfl, _, _, rfl, rfl, _, rfl, ifd (fun h1 => ?_) (fun h1 => ?_)⟩
      · refine ⟨_, rfl, _, _, rfl, rfl, ?_⟩
        show Q (.bl (decide (v ≤ m))) H
        have e : decide (v ≤ m) = decide (l ≤ v ∧ v ≤ m) := by simp [h1]
        rw [e]
        exact k
      · show Q (.bl false) H
        have e : false = decide (l ≤ v ∧ v ≤ m) := by simp [h1]
        rw [e]
        exact k
    | bl b => exact iteF k
    | non => exact iteF k
    | str x => exact iteF k
    | lst h1 h2 => exact iteF k
    | tup h1 h2 => exact iteF k
theorem ok_is_length (T : Tx w K mg) : Prom P w K mg base CX0 3 "is_length" s_is_length ["value"] (spIsLen K) := by
  refine Prom.of T.d_is_length sc_is_length (fun vs H Q E h => ?_) (fun _ _ _ _ _ _ us hl => match us, hl with | [_], _ => rfl) (fun f cdv A outer s H vs Q E hr h => ?_)
  · obtain ⟨v, d, rfl, _⟩ := h
    rfl
  · obtain ⟨v, d, rfl, hd, k⟩ := h
    refine ⟨_, (pss_one (ps_ret (pe_callP (ok_is_between T) (hr.mono (by decide)) (by rfl) pass0 (pa_cons (pv 0) (pa_cons pe_int (pa_cons (pe_gint T.c_LAST_LENGTH) pa_nil)))))), ?_⟩
    exact ⟨_, rfl, v, d, _, _, rfl, hd, k⟩
end
section
variable {P : Program} {w : World} {K : PySem.W.Frag} {mg : Str → Option Value} {base : Heap}
theorem fig_mul {b p e n : Int} {j : Nat} (hb : 2 ≤ b) (hb2 : b ≤ 256) (hn : n < 2 ^ 4000) (hp : p = b ^ (j + 1)) (hj : j = 0 ∨ b ^ j ≤ n) (he : e = b ^ 8) : CMulW p e := by
  have b8 : b ^ 8 ≤ 256 ^ 8 := by
    have g : ∀ m : Nat, b ^ m ≤ 256 ^ m := fun m => by
      induction m with
      | zero => rw [Int.pow_zero, Int.pow_zero]; exact Int.le_refl _
      | succ m ih =>
        rw [Int.pow_succ, Int.pow_succ]
        exact Int.mul_le_mul ih hb2 (by omega) (Int.le_of_lt (Int.lt_of_lt_of_le (by decide) (pow_pos (show (1 : Int) ≤ 256 by decide) m)))
    exact g 8
  have p1 := pow_pos (show 1 ≤ b by omega) (j + 1)
  have p8 := pow_pos (show 1 ≤ b by omega) 8
  have hq : b ^ j ≤ 2 ^ 4000 := by
    rcases hj with h | h
    · rw [h, Int.pow_zero]
      exact pow_pos (by decide) 4000
    · omega
  have pj := pow_pos (show 1 ≤ b by omega) j
  have hp2 : p ≤ 2 ^ 4000 * 256 := by
    rw [hp, Int.pow_succ]
    exact Int.mul_le_mul hq hb2 (by omega) (Int.le_of_lt (Int.lt_of_lt_of_le (by decide) (pow_pos (show (1 : Int) ≤ 2 by decide) 4000)))
  refine wide_mul (a := 4009) (b := 65) ?_ ?_ (by decide) (by decide) (by decide)
  · have h1 : p < 2 ^ 4009 := Int.lt_of_le_of_lt hp2 (by decide)
    have h2 : ((p.natAbs : Nat) : Int) < ((2 ^ 4009 : Nat) : Int) := by
      rw [Int.natCast_pow]
      have e : ((2 : Nat) : Int) = 2 := rfl
      rw [e]
      omega
    exact Int.ofNat_lt.mp h2
  · have h1 : e < 2 ^ 65 := by
      rw [he]
      exact Int.lt_of_le_of_lt b8 (by decide)
    have h2 : ((e.natAbs : Nat) : Int) < ((2 ^ 65 : Nat) : Int) := by
      rw [Int.natCast_pow]
      have e : ((2 : Nat) : Int) = 2 := rfl
      rw [e]
      omega
    exact Int.ofNat_lt.mp h2
theorem ok_figures_of (T : Tx w K mg) : Prom P w K mg base CX0 1 "figures_of" s_figures_of ["length", "base"] spFig := by
  refine Prom.of T.d_figures_of sc_figures_of (fun vs H Q E h => ?_) (fun _ _ _ _ _ _ us hl => match us, hl with | [_, _], _ => rfl) (fun f cdv A outer s H vs Q E hr h => ?_)
  · obtain ⟨n, b, rfl, _⟩ := h
    rfl
  · obtain ⟨n, b, rfl, hb, hb2, hn, k⟩ := h
    refine ⟨_, (pss_cons (ps_par3 (i := 2) (j := 3) (l := 4) (by rfl) sc_figures_of.nd rfl rfl rfl (by decide) (by decide) (by decide) rfl rfl rfl (pa_cons pe_int (pa_cons (pv 1) (pa_cons pe_int pa_nil))) (by rfl))
      (pss_cons (ps_for PassesOwn.never (by rfl) (pi_range1 (by rfl) T.b_range (pa_cons pe_int pa_nil)) (pg_name (i := 5) sc_figures_of.nd rfl (Or.inl rfl)) (pss_one (ps_set (i := 4) sc_figures_of.nd rfl (Or.inl rfl) (pe_op op_mul (pv 4) (pv 1)))))
      (pss_cons (ps_while PassesOwn.never (pt_cmp (pc_le (pe_op op_mulW (pv 3) (pv 4)) (pv 0))) (pss_one (ps_par (i := 2) (j := 3) (by rfl) sc_figures_of.nd rfl rfl (by decide) rfl rfl (pa_cons (pe_op op_add (pv 2) pe_int) (pa_cons (pe_op op_mulW (pv 3) (pv 4)) pa_nil)) (by rfl))))
      (pss_cons (ps_while PassesOwn.never (pt_cmp (pc_le (pv 3) (pv 0))) (pss_one (ps_par (i := 2) (j := 3) (by rfl) sc_figures_of.nd rfl rfl (by decide) rfl rfl (pa_cons (pe_op op_add (pv 2) pe_int) (pa_cons (pe_op op_mul (pv 3) (pv 1)) pa_nil)) (by rfl))))
      (pss_one (ps_ret (pv 2))))))), ?_⟩
    -- count, power, eight = 1, base, 1
    refine ⟨_, rfl, _, _, _, rfl, ?_⟩
    -- for turn in range(8)
    refine ⟨8, rfl, by decide, by decide, for_range (lo := 0) (n := 8) (fun i σ H' => H' = H ∧ ∃ v, σ = [some (.int n), some (.int b), some (.int 1), some (.int b), some (.int (b ^ i)), v]) ⟨rfl, none, by rw [Int.pow_zero]; rfl⟩ ?_ ?_⟩
    · rintro i σ H' hi ⟨rfl, v, rfl⟩
      refine ⟨_, rfl, _, rfl, _, _, rfl, rfl, .inr ⟨by omega, by omega⟩, ?_⟩
      exact ⟨rfl, some (.int (0 + (i : Int))), by rw [Int.pow_succ]; rfl⟩
    · rintro σ H' ⟨rfl, v, rfl⟩
      -- while power * eight <= length
      refine ⟨fun m σ H1 => H1 = H' ∧ ∃ (j : Nat), σ = [some (.int n), some (.int b), some (.int ((j : Int) + 1)), some (.int (b ^ (j + 1))), some (.int (b ^ 8)), v] ∧ (j = 0 ∨ b ^ j ≤ n) ∧ m = (n + 1 - b ^ (j + 1)).toNat,
        ⟨_, rfl, 0, by rw [pow_one b]; rfl, .inl rfl, rfl⟩, ?_⟩
      rintro m σ H1 ⟨rfl, j, rfl, hj, hm⟩
      have p1 := pow_pos (show 1 ≤ b by omega) (j + 1)
      refine ⟨_, rfl, _, rfl, _, _, rfl, rfl, fig_mul hb hb2 hn rfl hj rfl, ?_⟩
      refine ⟨_, rfl, _, _, rfl, rfl, _, rfl, ifd (fun c => ?_) (fun c => ?_)⟩
      · refine ⟨_, fun σ' H' h => h, ?_⟩
        have e9 : b ^ (j + 1) * b ^ 8 = b ^ (j + 8 + 1) := by rw [← Int.pow_add]
        have e8 : b ^ (j + 1) < b ^ (j + 8 + 1) := Int.lt_of_lt_of_le (pow_lt hb (j + 1)) (pow_mono (show 1 ≤ b by omega) (by omega))
        refine ⟨_, rfl, _, _, rfl, rfl, _, rfl, _, rfl, _, _, rfl, rfl, fig_mul hb hb2 hn rfl hj rfl, _, _, rfl, ?_⟩
        refine ⟨_, ?_, rfl, j + 8, ?_, .inr ?_, rfl⟩
        · rw [hm]
          rw [e9] at c
          omega
        · show [some (V.int n), some (V.int b), some (V.int ((j : Int) + 1 + 8)), some (V.int (b ^ (j + 1) * b ^ 8)), some (V.int (b ^ 8)), v] = _
          rw [e9]
          have e : (j : Int) + 1 + 8 = ((j + 8 : Nat) : Int) + 1 := by omega
          rw [e]
        · rw [e9] at c
          exact Int.le_trans (pow_mono (show 1 ≤ b by omega) (by omega)) c
      · -- while power <= length
        refine ⟨fun m σ H2 => H2 = H1 ∧ ∃ (j : Nat), σ = [some (.int n), some (.int b), some (.int ((j : Int) + 1)), some (.int (b ^ (j + 1))), some (.int (b ^ 8)), v] ∧ (j = 0 ∨ b ^ j ≤ n) ∧ m = (n + 1 - b ^ (j + 1)).toNat,
          ⟨_, rfl, j, rfl, hj, rfl⟩, ?_⟩
        clear c hm p1 hj
        rintro m σ H2 ⟨rfl, j, rfl, hj, hm⟩
        have p1 := pow_pos (show 1 ≤ b by omega) (j + 1)
        refine ⟨_, rfl, _, rfl, _, _, rfl, rfl, _, rfl, ifd (fun c => ?_) (fun c => ?_)⟩
        · refine ⟨_, fun σ' H' h => h, ?_⟩
          have e8 := pow_lt hb (j + 1)
          refine ⟨_, rfl, _, _, rfl, rfl, _, rfl, _, rfl, _, _, rfl, rfl, .inr ⟨by omega, by omega⟩, _, _, rfl, ?_⟩
          refine ⟨_, ?_, rfl, j + 1, ?_, .inr c, rfl⟩
          · rw [hm]
            omega
          · show [some (V.int n), some (V.int b), some (V.int ((j : Int) + 1 + 1)), some (V.int (b ^ (j + 1) * b)), some (V.int (b ^ 8)), v] = _
            rw [← Int.pow_succ]
            have e : (j : Int) + 1 + 1 = ((j + 1 : Nat) : Int) + 1 := by omega
            rw [e]
        · exact ⟨_, rfl, k _ ⟨j, rfl, by omega, hj⟩⟩
end
theorem log2_small {i : Int} (h0 : 0 ≤ i) (h1 : i < 10 ^ 70) : i.natAbs.log2 < 1920 := by
  have h3 : i.natAbs < 2 ^ 300 := Nat.lt_of_lt_of_le (show i.natAbs < 10 ^ 70 by omega) (by decide)
  exact Nat.lt_of_lt_of_le (PySem.Flt.log2_lt_of (by decide) h3) (by decide)
/-! ### ints shown -/
theorem shownAll_ints : ∀ xs : List Int, PyData.shownAll (xs.map PyData.int) = xs.map fun i => (toString i : Str)
  | [] => rfl
  | x :: xs => by
    show (toString x : Str) :: PyData.shownAll (xs.map PyData.int) = _
    rw [shownAll_ints xs]
    rfl
theorem sum_short : ∀ (xs : List Int), (∀ x ∈ xs, x.natAbs < 10 ^ 70) → ((xs.map fun i => (toString i : Str)).map (·.length)).sum ≤ 71 * xs.length
  | [], _ => by simp
  | x :: xs, h => by
    have h1 := sum_short xs fun y hy => h y (List.mem_cons_of_mem _ hy)
    have h2 : (toString x : Str).length ≤ 71 := by
      have := int_text_length_le10 (k := 70) (by decide) (h x (List.mem_cons_self ..))
      have e : (Str.ofString (toString x)).length = (toString x : String).length := PySem.ofString_length _
      show (Str.ofString (toString x)).length ≤ 71
      omega
    simp only [List.map_cons, List.sum_cons, List.length_cons]
    omega
def Shows (d : PyData) : Prop := d.showable = true ∧ d.hasDict = false ∧ d.depth ≤ 40 ∧ d.shown.length ≤ sizeLine
theorem ints_showable : ∀ xs : List Int, (∀ x ∈ xs, x.natAbs < 10 ^ 70) → PyData.showableAll (xs.map PyData.int) = true ∧ PyData.hasDictAll (xs.map PyData.int) = false ∧ PyData.depthAll (xs.map PyData.int) ≤ 2
  | [], _ => ⟨rfl, rfl, by decide⟩
  | x :: xs, h => by
    obtain ⟨h1, h2, h3⟩ := ints_showable xs fun y hy => h y (List.mem_cons_of_mem _ hy)
    have hx : x.natAbs.log2 < 1920 := by
      have h4 : x.natAbs < 2 ^ 300 := Nat.lt_of_lt_of_le (h x (List.mem_cons_self ..)) (by decide)
      exact Nat.lt_of_lt_of_le (PySem.Flt.log2_lt_of (by decide) h4) (by decide)
    refine ⟨?_, ?_, ?_⟩
    · show (decide (x.natAbs.log2 < 1920) && PyData.showableAll (xs.map PyData.int)) = true
      rw [h1, decide_eq_true hx] <;> rfl
    · show (false || PyData.hasDictAll (xs.map PyData.int)) = false
      rw [h2] <;> rfl
    · show max (PyData.depth (.int x)) (PyData.depthAll (xs.map PyData.int)) ≤ 2
      have : PyData.depth (.int x) ≤ 1 := by first | exact Nat.le_refl _ | exact Nat.zero_le _ | decide
      omega
theorem shows_tuple {xs : List Int} (h : ∀ x ∈ xs, x.natAbs < 10 ^ 70) (hl : xs.length ≤ 10000) : Shows (.tuple (xs.map PyData.int)) := by
  obtain ⟨h1, h2, h3⟩ := ints_showable xs h
  refine ⟨h1, h2, ?_, ?_⟩
  · show PyData.depthAll (xs.map PyData.int) + 1 ≤ 40
    omega
  · show (tupleText (PyData.shownAll (xs.map PyData.int))).length ≤ sizeLine
    have h4 := tupleText_len_le (PyData.shownAll (xs.map PyData.int))
    rw [shownAll_ints] at h4 ⊢
    have h5 := sum_short xs h
    rw [List.length_map] at h4
    rw [sizeLine_eq]
    omega
theorem shows_list {xs : List Int} (h : ∀ x ∈ xs, x.natAbs < 10 ^ 70) (hl : xs.length ≤ 10000) : Shows (.list (xs.map PyData.int)) := by
  obtain ⟨h1, h2, h3⟩ := ints_showable xs h
  refine ⟨h1, h2, ?_, ?_⟩
  · show PyData.depthAll (xs.map PyData.int) + 1 ≤ 40
    omega
  · show (listText (PyData.shownAll (xs.map PyData.int))).length ≤ sizeLine
    have h4 := listText_len_le (PyData.shownAll (xs.map PyData.int))
    rw [shownAll_ints] at h4 ⊢
    have h5 := sum_short xs h
    rw [List.length_map] at h4
    rw [sizeLine_eq]
    omega
theorem dp_ints {K : PySem.W.Frag} {H : Hp} : ∀ xs : List Int, DpAll K H (xs.map V.int) (xs.map PyData.int)
  | [] => .nil
  | x :: xs => .cons (.int x) (dp_ints xs)
/-- the numbers from lo on whose square is within the room, among so many -/
def sqs (r : Int) (i : Nat) : List Int := ((List.range i).map fun (j : Nat) => 1 + (j : Int)).filter fun z => decide (z * z ≤ r)
theorem sqs_succ (r : Int) (i : Nat) : sqs r (i + 1) = sqs r i ++ (if (1 + (i : Int)) * (1 + (i : Int)) ≤ r then [1 + (i : Int)] else []) := by
  unfold sqs
  rw [List.range_succ, List.map_append, List.filter_append]
  congr 1
  by_cases c : (1 + (i : Int)) * (1 + (i : Int)) ≤ r <;> simp [c]
theorem sqs_len {r : Int} (hr : 1 ≤ r) : ∀ i : Nat, (sqs r i).length ≤ i ∧ (1 ≤ i → 1 ≤ (sqs r i).length) ∧ ∀ z : Int, 1 ≤ z → z ≤ (sqs r i).length → z * z ≤ r
  | 0 => ⟨Nat.zero_le _, fun h => absurd h (by decide), fun z h0 h1 => by
    have e : (sqs r 0).length = 0 := rfl
    rw [e] at h1
    omega⟩
  | i + 1 => by
    obtain ⟨h1, h2, h3⟩ := sqs_len hr i
    have e := sqs_succ r i
    by_cases c : (1 + (i : Int)) * (1 + (i : Int)) ≤ r
    · rw [e, if_pos c, List.length_append]
      refine ⟨by simp; omega, fun _ => by simp, fun z z0 z1 => ?_⟩
      have zi : z ≤ 1 + (i : Int) := by
        simp at z1
        omega
      exact Int.le_trans (Int.mul_le_mul zi zi (by omega) (by omega)) c
    · rw [e, if_neg c, List.append_nil]
      refine ⟨by omega, fun _ => ?_, h3⟩
      by_cases i0 : i = 0
      · exfalso
        apply c
        rw [i0]
        simp
        omega
      · exact h2 (by omega)
/-! ### the law's pool: what is drawn lies in its range, and nothing else is told of it -/
def PurseAt (H : Hp) (p : Addr) : Prop := ∃ d x y : Int, H p = some (.lst [.int d, .int x, .int y]) ∧ 0 ≤ d ∧ 0 ≤ x ∧ x < 2147483648 ∧ 0 ≤ y ∧ y < 2147483648
theorem PurseAt.of {H : Hp} {p : Addr} {d x y : Int} (h : H p = some (.lst [.int d, .int x, .int y])) (h1 : 0 ≤ d) (h2 : 0 ≤ x) (h3 : x < 2147483648) (h4 : 0 ≤ y) (h5 : y < 2147483648) : PurseAt H p := ⟨d, x, y, h, h1, h2, h3, h4, h5⟩
structure Drew (p : Addr) (H H' : Hp) : Prop where
  at_ : PurseAt H' p
  kp : Kp p H H'
theorem Drew.refl {p : Addr} {H : Hp} (h : PurseAt H p) : Drew p H H := ⟨h, Kp.refl p H⟩
theorem Drew.trans {p : Addr} {H H1 H2 : Hp} (a : Drew p H H1) (b : Drew p H1 H2) : Drew p H H2 := ⟨b.at_, a.kp.trans b.kp⟩
theorem PurseAt.same {p : Addr} {H H' : Hp} (h : PurseAt H p) (s : Same H H') : PurseAt H' p := by
  obtain ⟨m, d, c, e, r⟩ := h
  exact ⟨m, d, c, s _ _ e, r⟩
theorem Drew.same {p : Addr} {H H1 H2 : Hp} (a : Drew p H H1) (b : Same H1 H2) : Drew p H H2 := ⟨a.at_.same b, fun x o n h => b _ _ (a.kp x o n h)⟩
theorem Drew.new {p q : Addr} {H H' : Hp} {o : HO} (a : Drew p H H') (h : H' q = none) : Drew p H (upd H' q o) := a.same fun y u e => by
  rw [upd_ne (ne_of_none e h)]
  exact e
theorem PurseAt.lst {p : Addr} {H : Hp} (h : PurseAt H p) : ∃ xs, H p = some (.lst xs) := by
  obtain ⟨_, _, _, e, _⟩ := h
  exact ⟨_, e⟩
theorem PurseAt.ne {p l : Addr} {H : Hp} (h : PurseAt H p) (hl : H l = none) : l ≠ p := by
  obtain ⟨_, e⟩ := h.lst
  exact Ne.symm (ne_of_none e hl)
theorem new_before {p q : Addr} {H H1 : Hp} (d : Drew p H H1) (hp : PurseAt H p) (hq : H1 q = none) : H q = none := by
  cases e : H q with
  | none => rfl
  | some o =>
    by_cases z : q = p
    · obtain ⟨_, e2⟩ := d.at_.lst
      rw [z, e2] at hq
      cases hq
    · rw [d.kp _ _ z e] at hq
      cases hq
theorem same_before {q : Addr} {H H1 : Hp} (d : Same H H1) (hq : H1 q = none) : H q = none := by
  cases e : H q with
  | none => rfl
  | some o =>
    rw [d _ _ e] at hq
    cases hq
/-- what is no list stays -/
theorem Drew.keep {p q : Addr} {H H1 : Hp} {o : HO} (d : Drew p H H1) (hp : PurseAt H p) (h : H q = some o) (n : ∀ xs, o ≠ .lst xs) : H1 q = some o := by
  obtain ⟨xs, e⟩ := hp.lst
  exact d.kp _ _ (fun z => by rw [z, e] at h; cases h; exact n xs rfl) h
def spCell (K : PySem.W.Frag) : Sp := fun vs H Q _ => ∃ (a : Addr) (ns : List Int) (k : Int), vs = [.ref a, .int k] ∧ SqL K H a (ns.map V.int) ∧ 0 ≤ k ∧ k ≤ 1000 ∧ ∀ z, Q (.int z) H
def spPurse : Sp := fun vs H Q _ => ∃ c : Int, vs = [.int c] ∧ ∀ p H', H p = none → Same H H' → PurseAt H' p → Q (.ref p) H'
def spTake : Sp := fun vs H Q _ => ∃ (p : Addr) (n : Int), vs = [.ref p, .int n] ∧ PurseAt H p ∧ 0 < n ∧ n ≤ 1000000000000000000000000000000 ∧ ∀ r H', 0 ≤ r → r < n → Drew p H H' → Q (.int r) H'
def spDraw (lo hi : Int) : Sp := fun vs H Q _ => ∃ (p : Addr), vs = [.ref p] ∧ PurseAt H p ∧ ∀ r H', lo ≤ r → r ≤ hi → Drew p H H' → Q (.int r) H'
def spLLen : Sp := fun vs H Q _ => ∃ (p : Addr) (b : Int), vs = [.ref p, .int b] ∧ PurseAt H p ∧ 2 ≤ b ∧ b ≤ 256 ∧ ∀ r H', 0 ≤ r → r ≤ 10 ^ 60 - 1 → Drew p H H' → Q (.int r) H'
def spConst : Sp := fun vs H Q _ => ∃ (p : Addr) (m : Int), vs = [.ref p, .int m] ∧ PurseAt H p ∧ 2 ≤ m ∧ m ≤ 1000 ∧ ∀ r H', 0 ≤ r → r ≤ m → Drew p H H' → Q (.int r) H'
theorem item_int {ns : List Int} {i : Nat} {x : V} (h : (ns.map V.int)[i]? = some x) : ∃ z, x = .int z := by
  rw [List.getElem?_map] at h
  cases e : ns[i]? with
  | none =>
    rw [e] at h
    cases h
  | some z =>
    rw [e] at h
    exact ⟨z, (Option.some.inj h).symm⟩
section
variable {P : Program} {w : World} {K : PySem.W.Frag} {mg : Str → Option Value} {base : Heap}
theorem ok_L_cell (T : Tx w K mg) : Prom P w K mg base CX0 1 "_law_cell" s_L_cell ["_law_cells", "_law_k"] (spCell K) := by
  refine Prom.of T.d_L_cell sc_L_cell (fun vs H Q E h => ?_) (fun _ _ _ _ _ _ us hl => match us, hl with | [_, _], _ => rfl) (fun f cdv A outer s H vs Q E hr h => ?_)
  · obtain ⟨a, ns, n, rfl, _⟩ := h
    rfl
  · obtain ⟨a, ns, n, rfl, hS, h0, h1, k⟩ := h
    have d0 : (0 : Int) < 2147483563 := by decide
    refine ⟨_, (pss_cons (ps_if (pt_cmp (pc_lt (pv 1) (pe_callB call_len_seq (by rfl) T.b_len (by decide +kernel) (pa_cons (pv 0) pa_nil)))) (pss_one (ps_ret (pe_ix ix_list (pv 0) (pv 1) (fun _ _ => rfl)))) pss_nil)
      (pss_cons (ps_set (i := 2) sc_L_cell.nd rfl (Or.inl rfl) (pe_op op_mod (pe_callTy call_int1 (by rfl) T.b_int (by decide +kernel) (pa_cons (pe_op op_mul (pe_op op_mul (pe_op op_add (pv 1) pe_int) (pe_op op_add (pv 1) pe_int)) pe_int) pa_nil)) pe_int))
      (pss_cons (ps_for PassesOwn.never (by rfl) (pi_list (pv 0)) (pg_name (i := 3) sc_L_cell.nd rfl (Or.inl rfl)) (pss_one (ps_set (i := 2) sc_L_cell.nd rfl (Or.inl rfl) (pe_op op_mod (pe_callTy call_int1 (by rfl) T.b_int (by decide +kernel) (pa_cons (pe_op op_add (pe_op op_add (pe_op op_mul (pv 2) pe_int) (pv 3)) pe_int) pa_nil)) pe_int))))
      (pss_one (ps_ret (pe_op op_mod (pe_callTy call_int1 (by rfl) T.b_int (by decide +kernel) (pa_cons (pe_op op_add (pe_op op_mul (pv 2) pe_int) (pv 1)) pa_nil)) pe_int)))))), ?_⟩
    refine ⟨_, rfl, _, rfl, _, _, rfl, .inl hS, _, _, rfl, rfl, _, rfl, ifd (fun c => ?_) (fun c => ?_)⟩
    · rw [List.length_map] at c
      have hi : n.toNat < ns.length := by omega
      obtain ⟨z, hz⟩ : ∃ z, ns[n.toNat]? = some z := ⟨_, List.getElem?_eq_getElem hi⟩
      have ez : (ns.map V.int)[n.toNat]? = some (V.int z) := by rw [List.getElem?_map, hz]; rfl
      exact ⟨_, rfl, _, rfl, _, _, _, _, rfl, rfl, hS, at_of (show n = ((n.toNat : Nat) : Int) by omega) ez, k z⟩
    · refine ⟨_, rfl, _, _, rfl, rfl, _, rfl, _, _, rfl, rfl, _, _, rfl, rfl, .inl ⟨by omega, by omega⟩, _, _, rfl, rfl, .inr ⟨by decide, by decide⟩, .inl ⟨_, rfl, _, _, rfl, rfl, d0, ?_⟩⟩
      refine ⟨_, rfl, a, rfl, ⟨_, hS⟩, for_list (K := K) (a := a) (xs := ns.map V.int) (fun i σ H' => H' = H ∧ ∃ m v, σ = [some (.ref a), some (.int n), some (.int m), v]) ⟨rfl, _, none, rfl⟩ (fun i σ H' _ h => by rw [h.1]; exact hS) ?_ ?_⟩
      · rintro i x σ H' hi ⟨rfl, m, v, rfl⟩
        obtain ⟨z, rfl⟩ := item_int hi
        refine ⟨_, rfl, _, _, rfl, rfl, .inr ⟨by decide, by decide⟩, _, rfl, _, _, rfl, rfl, _, _, rfl, rfl, .inl ⟨_, rfl, ?_⟩⟩
        exact ⟨_, _, rfl, rfl, d0, rfl, _, _, rfl⟩
      · rintro σ H' ⟨rfl, m, v, rfl⟩
        exact ⟨_, rfl, _, _, rfl, rfl, .inr ⟨by decide, by decide⟩, _, rfl, _, _, rfl, rfl, .inl ⟨_, rfl, _, _, rfl, rfl, d0, k _⟩⟩
theorem ok_L_pool (T : Tx w K mg) : Prom P w K mg base CX0 1 "_law_pool" s_L_pool ["_law_cell_here"] spPurse := by
  refine Prom.of T.d_L_pool sc_L_pool (fun vs H Q E h => ?_) (fun _ _ _ _ _ _ us hl => match us, hl with | [_], _ => rfl) (fun f cdv A outer s H vs Q E hr h => ?_)
  · obtain ⟨c, rfl, _⟩ := h
    rfl
  · obtain ⟨c, rfl, k⟩ := h
    refine ⟨_, (pss_cons (ps_set (i := 1) sc_L_pool.nd rfl (Or.inl rfl) (pe_ifExp (PW.pt (pw_or (pt_cmp (pc_lt (pv 0) pe_int)) (pw_or1 (pt_cmp (pc_ge (pv 0) (pe_op op_pow pe_int pe_int)))))) (pe_callB call_abs (by rfl) T.b_abs (by decide +kernel) (pa_cons (pv 0) pa_nil)) pe_int))
      (pss_one (ps_ret (pe_lst (pa_cons (pv 1) (pa_cons (pe_op op_add pe_int (pe_op op_mod (pe_callTy call_int1 (by rfl) T.b_int (by decide +kernel) (pa_cons (pe_op op_add (pe_op op_mul (pv 0) pe_int) pe_int) pa_nil)) pe_int)) (pa_cons (pe_op op_add pe_int (pe_op op_mod (pe_callTy call_int1 (by rfl) T.b_int (by decide +kernel) (pa_cons (pe_op op_add (pv 0) pe_int) pa_nil)) pe_int)) pa_nil))))))), ?_⟩
    have fin : ∀ d : Int, 0 ≤ d → ∀ p, H p = none → Q (.ref p) (upd H p (.lst [.int d, .int (1 + (c * 3 + 71) % 2147483398), .int (1 + (c + 5923) % 2147483562)])) := fun d hd p hp => by
      have a1 := Int.emod_nonneg (c * 3 + 71) (show (2147483398 : Int) ≠ 0 by decide)
      have a2 := Int.emod_lt_of_pos (c * 3 + 71) (show (0 : Int) < 2147483398 by decide)
      have b1 := Int.emod_nonneg (c + 5923) (show (2147483562 : Int) ≠ 0 by decide)
      have b2 := Int.emod_lt_of_pos (c + 5923) (show (0 : Int) < 2147483562 by decide)
      exact k p _ hp (fun b o e => by rw [upd_ne (ne_of_none e hp)]; exact e) (PurseAt.of upd_same hd (by omega) (by omega) (by omega) (by omega))
    refine ⟨_, rfl, _, _, rfl, rfl, _, rfl, ifd (fun h1 => iteT ?_) (fun h1 => ?_)⟩
    · refine ⟨_, rfl, _, rfl, ?_⟩
      refine ⟨_, rfl, _, rfl, _, _, rfl, rfl, .inr ⟨by decide, by decide⟩, _, _, rfl, rfl, .inl ⟨_, rfl, _, _, rfl, rfl, (by show (0 : Int) < 2147483398; decide), _, _, rfl, rfl, ?_⟩⟩
      refine ⟨_, rfl, _, _, rfl, rfl, .inl ⟨_, rfl, _, _, rfl, rfl, (by show (0 : Int) < 2147483562; decide), _, _, rfl, rfl, (by show 3 ≤ sizeLine; decide), fun p hp => fin _ ?_ p hp⟩⟩
      split <;> omega
    refine ⟨_, rfl, _, _, rfl, rfl, ⟨by decide, by decide, by decide⟩, _, _, rfl, rfl, _, rfl, ifd (fun h2 => ?_) (fun h2 => ?_)⟩
    · refine ⟨_, rfl, _, rfl, ?_⟩
      refine ⟨_, rfl, _, rfl, _, _, rfl, rfl, .inr ⟨by decide, by decide⟩, _, _, rfl, rfl, .inl ⟨_, rfl, _, _, rfl, rfl, (by show (0 : Int) < 2147483398; decide), _, _, rfl, rfl, ?_⟩⟩
      refine ⟨_, rfl, _, _, rfl, rfl, .inl ⟨_, rfl, _, _, rfl, rfl, (by show (0 : Int) < 2147483562; decide), _, _, rfl, rfl, (by show 3 ≤ sizeLine; decide), fun p hp => fin _ ?_ p hp⟩⟩
      split <;> omega
    · refine ⟨_, rfl, ?_⟩
      refine ⟨_, rfl, _, _, rfl, rfl, .inr ⟨by decide, by decide⟩, _, _, rfl, rfl, .inl ⟨_, rfl, _, _, rfl, rfl, (by show (0 : Int) < 2147483398; decide), _, _, rfl, rfl, ?_⟩⟩
      refine ⟨_, rfl, _, _, rfl, rfl, .inl ⟨_, rfl, _, _, rfl, rfl, (by show (0 : Int) < 2147483562; decide), _, _, rfl, rfl, (by show 3 ≤ sizeLine; decide), fun p hp => fin _ (Int.le_refl 0) p hp⟩⟩
theorem ok_L_draw (T : Tx w K mg) : Prom P w K mg base CX0 1 "_law_draw" s_L_draw ["_law_pool_here", "_law_many"] spTake := by
  refine Prom.of T.d_L_draw sc_L_draw (fun vs H Q E h => ?_) (fun _ _ _ _ _ _ us hl => match us, hl with | [_, _], _ => rfl) (fun f cdv A outer s H vs Q E hr h => ?_)
  · obtain ⟨p, n, rfl, _⟩ := h
    rfl
  · obtain ⟨p, n, rfl, ⟨d, x, y, hp, h0, h1, h2, h3, h4⟩, hn, hn2, k⟩ := h
    refine ⟨_, (pss_cons (ps_if (pt_cmp (pc_gt (pe_ix ix_list (pv 0) pe_int (fun _ _ => rfl)) pe_int)) (pss_cons (ps_asg (pe_callB call_divmodW (by rfl) T.b_divmod (by decide +kernel) (pa_cons (pe_ix ix_list (pv 0) pe_int (fun _ _ => rfl)) (pa_cons (pv 1) pa_nil))) (pg_tup rfl (pgs_cons (pg_sub (pv 0) pe_int set_list) (pgs_cons (pg_name (i := 2) sc_L_draw.nd rfl (Or.inl rfl)) pgs_nil))))
      (pss_one (ps_ret (pv 2)))) pss_nil)
      (pss_cons (ps_asg (pe_op op_mod (pe_callTy call_int1 (by rfl) T.b_int (by decide +kernel) (pa_cons (pe_op op_mul (pe_ix ix_list (pv 0) pe_int (fun _ _ => rfl)) pe_int) pa_nil)) pe_int) (pg_sub (pv 0) pe_int set_list))
      (pss_cons (ps_asg (pe_op op_mod (pe_callTy call_int1 (by rfl) T.b_int (by decide +kernel) (pa_cons (pe_op op_mul (pe_ix ix_list (pv 0) pe_int (fun _ _ => rfl)) pe_int) pa_nil)) pe_int) (pg_sub (pv 0) pe_int set_list))
      (pss_one (ps_ret (pe_op op_mod (pe_callTy call_int1 (by rfl) T.b_int (by decide +kernel) (pa_cons (pe_op op_fdiv (pe_op op_add (pe_ix ix_list (pv 0) pe_int (fun _ _ => rfl)) (pe_ix ix_list (pv 0) pe_int (fun _ _ => rfl))) pe_int) pa_nil)) (pv 1))))))), ?_⟩
    refine ⟨_, rfl, _, _, _, _, rfl, rfl, SqL.of hp, rfl, _, _, rfl, rfl, _, rfl, ifd (fun c1 => ?_) (fun c1 => ?_)⟩
    · have c1 : d > 0 := c1
      refine ⟨_, rfl, _, _, _, _, rfl, rfl, SqL.of hp, rfl, _, rfl, _, _, rfl, divp_small hn hn2, fun q hq => ?_⟩
      have nq : p ≠ q := ne_of_none hp hq
      refine ⟨q, _, rfl, SqT.of upd_same, rfl, _, _, rfl, ?_⟩
      refine ⟨_, rfl, _, _, _, _, rfl, rfl, (by rw [upd_ne nq]; exact hp), rfl, ?_⟩
      refine ⟨_, _, rfl, rfl, ?_⟩
      refine ⟨_, rfl, k _ _ (Int.emod_nonneg _ (by omega)) (Int.emod_lt_of_pos _ hn) ⟨PurseAt.of upd_same (Int.ediv_nonneg (by omega) (by omega)) h1 h2 h3 h4, ?_⟩⟩
      exact Kp.set (Kp.new (Kp.refl p H) hq)
    · refine ⟨_, rfl, _, _, _, _, rfl, rfl, SqL.of hp, rfl, _, _, rfl, rfl, .inr ⟨by decide, by decide⟩, .inl ⟨_, rfl, _, _, rfl, rfl, (by show (0 : Int) < 2147483399; decide), ?_⟩⟩
      refine ⟨_, rfl, _, _, _, _, rfl, rfl, hp, rfl, ?_⟩
      have a1 := Int.emod_nonneg (x * 40692) (show (2147483399 : Int) ≠ 0 by decide)
      have a2 := Int.emod_lt_of_pos (x * 40692) (show (0 : Int) < 2147483399 by decide)
      have e1 : (upd H p (.lst ([V.int d, V.int x, V.int y].set 1 (V.int (x * 40692 % 2147483399))))) p = some (.lst [.int d, .int (x * 40692 % 2147483399), .int y]) := upd_same
      refine ⟨_, rfl, _, _, _, _, rfl, rfl, SqL.of e1, rfl, _, _, rfl, rfl, .inr ⟨by decide, by decide⟩, .inl ⟨_, rfl, _, _, rfl, rfl, (by show (0 : Int) < 2147483563; decide), ?_⟩⟩
      refine ⟨_, rfl, _, _, _, _, rfl, rfl, e1, rfl, ?_⟩
      have b1 := Int.emod_nonneg (y * 40014) (show (2147483563 : Int) ≠ 0 by decide)
      have b2 := Int.emod_lt_of_pos (y * 40014) (show (0 : Int) < 2147483563 by decide)
      have e2 : (upd (upd H p (.lst ([V.int d, V.int x, V.int y].set 1 (V.int (x * 40692 % 2147483399))))) p (.lst ([V.int d, V.int (x * 40692 % 2147483399), V.int y].set 2 (V.int (y * 40014 % 2147483563))))) p = some (.lst [.int d, .int (x * 40692 % 2147483399), .int (y * 40014 % 2147483563)]) := upd_same
      refine ⟨_, rfl, _, _, _, _, rfl, rfl, SqL.of e2, rfl, _, rfl, _, _, _, _, rfl, rfl, SqL.of e2, rfl, _, _, rfl, rfl, _, _, rfl, rfl, ⟨by decide, by decide⟩, .inl ⟨_, rfl, _, rfl, _, _, rfl, rfl, hn, ?_⟩⟩
      exact k _ _ (Int.emod_nonneg _ (by omega)) (Int.emod_lt_of_pos _ hn) ⟨PurseAt.of e2 h0 a1 (by omega) b1 (by omega), Kp.set (Kp.set (Kp.refl p H))⟩
end
section
variable {P : Program} {w : World} {K : PySem.W.Frag} {mg : Str → Option Value} {base : Heap}
theorem ok_L_far (T : Tx w K mg) : Prom P w K mg base CX0 2 "_law_far" s_L_far ["_law_pool_here"] (spDraw 0 (10 ^ 60 - 1)) := by
  refine Prom.of T.d_L_far sc_L_far (fun vs H Q E h => ?_) (fun _ _ _ _ _ _ us hl => match us, hl with | [_], _ => rfl) (fun f cdv A outer s H vs Q E hr h => ?_)
  · obtain ⟨p, rfl, _⟩ := h
    rfl
  · obtain ⟨p, rfl, hp, k⟩ := h
    refine ⟨_, (pss_cons (ps_par (i := 1) (j := 2) (by rfl) sc_L_far.nd rfl rfl (by decide) rfl rfl (pa_cons (pe_callP (ok_L_draw T) (hr.mono (by decide)) (by rfl) pass0 (pa_cons (pv 0) (pa_cons pe_int pa_nil))) (pa_cons pe_int pa_nil)) (by rfl))
      (pss_cons (ps_for PassesOwn.never (by rfl) (pi_range1 (by rfl) T.b_range (pa_cons pe_int pa_nil)) (pg_name (i := 3) sc_L_far.nd rfl (Or.inl rfl)) (pss_one (ps_set (i := 2) sc_L_far.nd rfl (Or.inl rfl) (pe_op op_add (pe_op op_mul (pv 2) (pe_op op_pow pe_int pe_int)) (pe_callP (ok_L_draw T) (hr.mono (by decide)) (by rfl) pass0 (pa_cons (pv 0) (pa_cons (pe_op op_pow pe_int pe_int) pa_nil)))))))
      (pss_one (ps_ret (pe_op op_fdivW (pv 2) (pe_ix ix_list (pe_lst (pa_cons pe_int (pa_cons (pe_op op_pow pe_int pe_int) (pa_cons (pe_op op_pow pe_int pe_int) (pa_cons (pe_op op_pow pe_int pe_int) (pa_cons (pe_op op_pow pe_int pe_int) pa_nil)))))) (pv 1) (fun _ _ => rfl))))))), ?_⟩
    refine ⟨_, rfl, p, _, rfl, hp, by decide, by decide, fun r H1 r0 r1 d1 => ⟨_, _, rfl, ?_⟩⟩
    refine ⟨10, rfl, by decide, by decide, for_range (lo := 0) (n := 10) (fun i σ H' => Drew p H H' ∧ ∃ (m : Int) (v : Option V), 0 ≤ m ∧ m < 10 ^ (6 * i) ∧ σ = [some (.ref p), some (.int r), some (.int m), v]) ⟨d1, 0, none, by decide, by decide, rfl⟩ ?_ ?_⟩
    · rintro i σ H' hi ⟨hd, m, v, m0, m1, rfl⟩
      refine ⟨_, rfl, _, _, rfl, rfl, ⟨by decide, by decide, by decide⟩, _, _, rfl, rfl, .inr ⟨by decide, by decide⟩, ?_⟩
      refine ⟨_, rfl, _, _, rfl, rfl, ⟨by decide, by decide, by decide⟩, p, _, rfl, hd.at_, by decide, by decide, fun y H2 y0 y1 d2 => ⟨_, _, rfl, rfl, ?_⟩⟩
      have e6 : (10 : Int) ^ (6 : Int).toNat = 1000000 := by decide
      have y1 : y < 1000000 := by rw [e6] at y1; exact y1
      have e : (10 : Int) ^ (6 * (i + 1)) = 10 ^ (6 * i) * 1000000 := by rw [Nat.mul_add, Int.pow_add]; rfl
      refine ⟨hd.trans d2, m * 10 ^ (6 : Int).toNat + y, _, ?_, ?_, rfl⟩
      · rw [e6]
        omega
      · rw [e6, e]
        omega
    · rintro σ H' ⟨hd, m, v, m0, m1, rfl⟩
      have m1 : m < 10 ^ 60 := m1
      refine ⟨_, rfl, _, _, rfl, rfl, ⟨by decide, by decide, by decide⟩, _, _, rfl, rfl, ⟨by decide, by decide, by decide⟩, _, _, rfl, rfl, ⟨by decide, by decide, by decide⟩, _, _, rfl, rfl, ⟨by decide, by decide, by decide⟩, (by show 5 ≤ sizeLine; decide), fun l hl => ?_⟩
      have d2 := hd.new (o := .lst [.int 1, .int (10 ^ (13 : Int).toNat), .int (10 ^ (30 : Int).toNat), .int (10 ^ (44 : Int).toNat), .int (10 ^ (52 : Int).toNat)]) hl
      obtain ⟨c, hc, c0, c1⟩ : ∃ c : Int, [V.int 1, V.int (10 ^ (13 : Int).toNat), V.int (10 ^ (30 : Int).toNat), V.int (10 ^ (44 : Int).toNat), V.int (10 ^ (52 : Int).toNat)][r.toNat]? = some (.int c) ∧ 0 < c ∧ c.natAbs < 2 ^ 200 := by
        have r5 : r = 0 ∨ r = 1 ∨ r = 2 ∨ r = 3 ∨ r = 4 := by omega
        rcases r5 with rfl | rfl | rfl | rfl | rfl
        · exact ⟨_, rfl, by decide, by decide⟩
        · exact ⟨_, rfl, by decide, by decide⟩
        · exact ⟨_, rfl, by decide, by decide⟩
        · exact ⟨_, rfl, by decide, by decide⟩
        · exact ⟨_, rfl, by decide, by decide⟩
      refine ⟨_, rfl, l, _, _, _, rfl, rfl, SqL.of upd_same, at_of (show r = ((r.toNat : Nat) : Int) by omega) hc, _, _, rfl, rfl, wide_div (b := 200) c0 c1 (by decide) (by decide), ?_⟩
      have q0 := Int.ediv_nonneg m0 (show 0 ≤ c by omega)
      have q1 := Int.ediv_le_self c m0
      exact k _ _ q0 (by omega) d2
theorem ok_L_radix (T : Tx w K mg) : Prom P w K mg base CX0 2 "_law_radix" s_L_radix ["_law_pool_here"] (spDraw 2 256) := by
  refine Prom.of T.d_L_radix sc_L_radix (fun vs H Q E h => ?_) (fun _ _ _ _ _ _ us hl => match us, hl with | [_], _ => rfl) (fun f cdv A outer s H vs Q E hr h => ?_)
  · obtain ⟨p, rfl, _⟩ := h
    rfl
  · obtain ⟨p, rfl, hp, k⟩ := h
    refine ⟨_, (pss_cons (ps_set (i := 1) sc_L_radix.nd rfl (Or.inl rfl) (pe_callP (ok_L_draw T) (hr.mono (by decide)) (by rfl) pass0 (pa_cons (pv 0) (pa_cons pe_int pa_nil))))
      (pss_cons (ps_if (pt_cmp (pc_eqI (pv 1) pe_int)) (pss_one (ps_ret (pe_op op_add pe_int (pe_callP (ok_L_draw T) (hr.mono (by decide)) (by rfl) pass0 (pa_cons (pv 0) (pa_cons pe_int pa_nil)))))) pss_nil)
      (pss_one (ps_ret (pe_ifExp (pt_cmp (pc_eqI (pv 1) pe_int)) pe_int (pe_op op_add pe_int (pe_callP (ok_L_draw T) (hr.mono (by decide)) (by rfl) pass0 (pa_cons (pv 0) (pa_cons pe_int pa_nil))))))))), ?_⟩
    refine ⟨_, rfl, p, _, rfl, hp, by decide, by decide, fun r H2 r0 r1 d2 => ?_⟩
    refine ⟨_, rfl, _, _, rfl, rfl, _, rfl, ifd (fun c => ?_) (fun c => ?_)⟩
    · exact ⟨_, rfl, p, _, rfl, d2.at_, by decide, by decide, fun r' H3 r0' r1' d3 => ⟨_, _, rfl, rfl, k _ _ (by omega) (by omega) (d2.trans d3)⟩⟩
    · refine ⟨_, rfl, _, _, rfl, rfl, _, rfl, ifd (fun c => ?_) (fun c => ?_)⟩
      · exact k _ _ (by decide) (by decide) d2
      · exact ⟨_, rfl, p, _, rfl, d2.at_, by decide, by decide, fun r' H3 r0' r1' d3 => ⟨_, _, rfl, rfl, k _ _ (by omega) (by omega) (d2.trans d3)⟩⟩
theorem ok_L_length (T : Tx w K mg) : Prom P w K mg base CX0 3 "_law_length" s_L_length ["_law_pool_here", "_law_b"] spLLen := by
  refine Prom.of T.d_L_length sc_L_length (fun vs H Q E h => ?_) (fun _ _ _ _ _ _ us hl => match us, hl with | [_, _], _ => rfl) (fun f cdv A outer s H vs Q E hr h => ?_)
  · obtain ⟨p, b, rfl, _⟩ := h
    rfl
  · obtain ⟨p, b, rfl, hp, b0, b1, k⟩ := h
    refine ⟨_, (pss_cons (ps_set (i := 2) sc_L_length.nd rfl (Or.inl rfl) (pe_callP (ok_L_draw T) (hr.mono (by decide)) (by rfl) pass0 (pa_cons (pv 0) (pa_cons pe_int pa_nil))))
      (pss_cons (ps_if (pt_cmp (pc_lt (pv 2) pe_int)) (pss_one (ps_ret (pe_callP (ok_L_draw T) (hr.mono (by decide)) (by rfl) pass0 (pa_cons (pv 0) (pa_cons (pe_ix ix_list (pe_lst (pa_cons pe_int (pa_cons pe_int pa_nil))) (pv 2) (fun _ _ => rfl)) pa_nil))))) pss_nil)
      (pss_cons (ps_if (pt_cmp (pc_eqI (pv 2) pe_int)) (pss_one (ps_ret (pe_op op_sub (pe_op op_sub (pe_op op_pow pe_int pe_int) pe_int) (pe_callP (ok_L_draw T) (hr.mono (by decide)) (by rfl) pass0 (pa_cons (pv 0) (pa_cons pe_int pa_nil)))))) pss_nil)
      (pss_cons (ps_if (pt_cmp (pc_eqI (pv 2) pe_int)) (pss_one (ps_ret (pe_callP (ok_L_far T) (hr.mono (by decide)) (by rfl) pass0 (pa_cons (pv 0) pa_nil)))) pss_nil)
      (pss_cons (ps_set (i := 3) sc_L_length.nd rfl (Or.inl rfl) pe_int)
      (pss_cons (ps_for PassesOwn.never (by rfl) (pi_range1 (by rfl) T.b_range (pa_cons (pe_op op_add pe_int (pe_callP (ok_L_draw T) (hr.mono (by decide)) (by rfl) pass0 (pa_cons (pv 0) (pa_cons pe_int pa_nil)))) pa_nil)) (pg_name (i := 4) sc_L_length.nd rfl (Or.inl rfl)) (pss_one (ps_set (i := 3) sc_L_length.nd rfl (Or.inl rfl) (pe_ifExp (pt_cmp (pc_lt (pe_op op_mul (pv 3) (pv 1)) (pe_op op_pow pe_int pe_int))) (pe_op op_mul (pv 3) (pv 1)) (pv 3)))))
      (pss_one (ps_ret (pe_callB (call_max2 rfl) (by rfl) T.b_max (by decide +kernel) (pa_cons pe_int (pa_cons (pe_op op_sub (pe_op op_add (pv 3) (pe_callP (ok_L_draw T) (hr.mono (by decide)) (by rfl) pass0 (pa_cons (pv 0) (pa_cons pe_int pa_nil)))) pe_int) pa_nil))))))))))), ?_⟩
    refine ⟨_, rfl, p, _, rfl, hp, by decide, by decide, fun r H2 r0 r1 d2 => ?_⟩
    refine ⟨_, rfl, _, _, rfl, rfl, _, rfl, ifd (fun c => ?_) (fun c => ?_)⟩
    · have c : r < 2 := c
      refine ⟨_, rfl, (by show 2 ≤ sizeLine; decide), fun l hl => ?_⟩
      have d3 := d2.new (o := .lst [.int 70, .int 3000]) hl
      obtain ⟨y, hy, y0, y1⟩ : ∃ y : Int, [V.int 70, V.int 3000][r.toNat]? = some (.int y) ∧ 0 < y ∧ y ≤ 3000 := by
        have r5 : r = 0 ∨ r = 1 := by omega
        rcases r5 with rfl | rfl
        · exact ⟨_, rfl, by decide, by decide⟩
        · exact ⟨_, rfl, by decide, by decide⟩
      refine ⟨_, rfl, l, _, _, _, rfl, rfl, SqL.of upd_same, at_of (show r = ((r.toNat : Nat) : Int) by omega) hy, p, y, rfl, d3.at_, y0, by omega, fun z H3 z0 z1 d4 => ?_⟩
      exact k _ _ z0 (Int.le_trans (show z ≤ 3000 by omega) (by decide)) (d3.trans d4)
    · refine ⟨_, rfl, _, _, rfl, rfl, _, rfl, ifd (fun c2 => ?_) (fun c2 => ?_)⟩
      · refine ⟨_, _, rfl, rfl, ⟨by decide, by decide, by decide⟩, _, _, rfl, rfl, _, rfl, p, _, rfl, d2.at_, by decide, by decide, fun z H3 z0 z1 d4 => ⟨_, _, rfl, rfl, ?_⟩⟩
        have e : (10 : Int) ^ (60 : Int).toNat = 10 ^ 60 := rfl
        exact k _ _ (by rw [e]; omega) (by rw [e]; omega) (d2.trans d4)
      · refine ⟨_, rfl, _, _, rfl, rfl, _, rfl, ifd (fun c3 => ?_) (fun c3 => ?_)⟩
        · exact ⟨_, rfl, p, rfl, d2.at_, fun z H3 z0 z1 d4 => k _ _ z0 z1 (d2.trans d4)⟩
        · refine ⟨_, rfl, p, _, rfl, d2.at_, by decide, by decide, fun t H3 t0 t1 d3 => ⟨_, _, rfl, rfl, ?_⟩⟩
          have d3 := d2.trans d3
          refine ⟨_, rfl, by omega, by omega, for_range (lo := 0) (fun i σ H' => H' = H3 ∧ ∃ (m : Int) (v : Option V), 1 ≤ m ∧ m < 10 ^ 59 ∧ σ = [some (.ref p), some (.int b), some (.int r), some (.int m), v]) ⟨rfl, 1, none, by decide, by decide, rfl⟩ ?_ ?_⟩
          · rintro i σ H' hi ⟨rfl, m, v, m0, m1, rfl⟩
            refine ⟨_, rfl, _, rfl, _, _, rfl, rfl, .inr ⟨by omega, by omega⟩, _, _, rfl, rfl, ⟨by decide, by decide, by decide⟩, _, _, rfl, rfl, _, rfl, ifd (fun c => ?_) (fun c => ?_)⟩
            · have c : m * b < 10 ^ 59 := c
              refine ⟨_, rfl, _, rfl, _, _, rfl, rfl, .inr ⟨by omega, by omega⟩, rfl, m * b, _, ?_, c, rfl⟩
              have := Int.mul_le_mul m0 (show 1 ≤ b by omega) (by decide) (by omega)
              omega
            · exact ⟨_, rfl, rfl, m, _, m0, m1, rfl⟩
          · rintro σ H' ⟨rfl, m, v, m0, m1, rfl⟩
            refine ⟨_, rfl, _, rfl, p, _, rfl, d3.at_, by decide, by decide, fun z H4 z0 z1 d4 => ⟨_, _, rfl, rfl, _, _, rfl, rfl, _, _, rfl, ?_⟩⟩
            refine k _ _ ?_ ?_ (d3.trans d4)
            · split <;> omega
            · have e : (10 : Int) ^ 60 = 10 * 10 ^ 59 := by decide
              rw [e]
              split <;> omega
theorem ok_L_constant (T : Tx w K mg) : Prom P w K mg base CX0 2 "_law_constant" s_L_constant ["_law_pool_here", "_law_most"] spConst := by
  refine Prom.of T.d_L_constant sc_L_constant (fun vs H Q E h => ?_) (fun _ _ _ _ _ _ us hl => match us, hl with | [_, _], _ => rfl) (fun f cdv A outer s H vs Q E hr h => ?_)
  · obtain ⟨p, m, rfl, _⟩ := h
    rfl
  · obtain ⟨p, m, rfl, hp, m0, m1, k⟩ := h
    refine ⟨_, (pss_cons (ps_set (i := 2) sc_L_constant.nd rfl (Or.inl rfl) (pe_callP (ok_L_draw T) (hr.mono (by decide)) (by rfl) pass0 (pa_cons (pv 0) (pa_cons pe_int pa_nil))))
      (pss_cons (ps_if (pt_cmp (pc_eqI (pv 2) pe_int)) (pss_one (ps_ret (pe_callP (ok_L_draw T) (hr.mono (by decide)) (by rfl) pass0 (pa_cons (pv 0) (pa_cons pe_int pa_nil))))) pss_nil)
      (pss_one (ps_ret (pe_ifExp (pt_cmp (pc_eqI (pv 2) pe_int)) (pe_op op_sub (pv 1) (pe_callP (ok_L_draw T) (hr.mono (by decide)) (by rfl) pass0 (pa_cons (pv 0) (pa_cons pe_int pa_nil)))) (pe_callP (ok_L_draw T) (hr.mono (by decide)) (by rfl) pass0 (pa_cons (pv 0) (pa_cons (pe_op op_add (pv 1) pe_int) pa_nil)))))))), ?_⟩
    refine ⟨_, rfl, p, _, rfl, hp, by decide, by decide, fun r H2 r0 r1 d2 => ?_⟩
    refine ⟨_, rfl, _, _, rfl, rfl, _, rfl, ifd (fun c => ?_) (fun c => ?_)⟩
    · exact ⟨_, rfl, p, _, rfl, d2.at_, by decide, by decide, fun z H3 z0 z1 d4 => k _ _ z0 (by omega) (d2.trans d4)⟩
    · refine ⟨_, rfl, _, _, rfl, rfl, _, rfl, ifd (fun c => ?_) (fun c => ?_)⟩
      · exact ⟨_, rfl, _, rfl, p, _, rfl, d2.at_, by decide, by decide, fun z H3 z0 z1 d4 => ⟨_, _, rfl, rfl, k _ _ (by omega) (by omega) (d2.trans d4)⟩⟩
      · exact ⟨_, rfl, _, rfl, _, _, rfl, rfl, p, m + 1, rfl, d2.at_, by omega, by omega, fun z H3 z0 z1 d4 => k _ _ z0 (by omega) (d2.trans d4)⟩
end
theorem fig_div {b n : Int} {j : Nat} (hb : 2 ≤ b) (h : b ^ j ≤ n) : figF b n = figF b (n / b ^ j) + j := by
  have pj := pow_pos (show 1 ≤ b by omega) j
  obtain ⟨i, e, h1, h2⟩ := figF_is (b := b) (n := n / b ^ j) hb
  refine (figF_eq hb (n := n) (k := figF b (n / b ^ j) + j) ⟨i + j, by omega, ?_, .inr ?_⟩).symm
  · have z := (Int.ediv_lt_iff_lt_mul (by omega)).mp h1
    have e2 : b ^ (i + j + 1) = b ^ (i + 1) * b ^ j := by rw [← Int.pow_add]; congr 1; omega
    rw [e2]
    exact z
  · rw [Int.pow_add]
    rcases h2 with h2 | h2
    · rw [h2, Int.pow_zero, Int.one_mul]
      exact h
    · exact (Int.le_ediv_iff_mul_le (by omega)).mp h2
theorem fig_one {b n : Int} (hb : 2 ≤ b) (h : n < b) : figF b n = 1 := (figF_eq hb (n := n) (k := 1) ⟨0, rfl, by rw [pow_one]; exact h, .inl rfl⟩).symm
def spLFigs : Sp := fun vs H Q _ => ∃ n b : Int, vs = [.int n, .int b] ∧ 2 ≤ b ∧ b ≤ 256 ∧ 0 ≤ n ∧ Q (.int (figF b n)) H
section
variable {P : Program} {w : World} {K : PySem.W.Frag} {mg : Str → Option Value} {base : Heap}
theorem ok_L_figures (T : Tx w K mg) : Prom P w K mg base CX0 1 "_law_figures" s_L_figures ["_law_n", "_law_b"] spLFigs := by
  refine Prom.of T.d_L_figures sc_L_figures (fun vs H Q E h => ?_) (fun _ _ _ _ _ _ us hl => match us, hl with | [_, _], _ => rfl) (fun f cdv A outer s H vs Q E hr h => ?_)
  · obtain ⟨n, b, rfl, _⟩ := h
    rfl
  · obtain ⟨n, b, rfl, hb, hb2, n0, k⟩ := h
    have p16 := pow_lt hb 0
    have g16 : ∀ m : Nat, b ^ m ≤ 256 ^ m := fun m => by
      induction m with
      | zero => rw [Int.pow_zero, Int.pow_zero]; exact Int.le_refl _
      | succ m ih =>
        rw [Int.pow_succ, Int.pow_succ]
        exact Int.mul_le_mul ih hb2 (by omega) (Int.le_of_lt (Int.lt_of_lt_of_le (by decide) (pow_pos (show (1 : Int) ≤ 256 by decide) m)))
    have f0 : b ^ 1 ≤ b ^ 16 := pow_mono (by omega) (by decide)
    have f1 : b ^ 1 = b := pow_one b
    have f2 := g16 16
    have f3 : (b ^ 16).natAbs < 2 ^ 130 := by
      have : (b ^ 16).natAbs ≤ 256 ^ 16 := by
        have e : (256 : Int) ^ 16 = ((256 ^ 16 : Nat) : Int) := by decide
        rw [e] at f2
        omega
      exact Nat.lt_of_le_of_lt this (by decide)
    refine ⟨_, (pss_cons (ps_par (i := 2) (j := 3) (by rfl) sc_L_figures.nd rfl rfl (by decide) rfl rfl (pa_cons (pe_op op_pow (pv 1) pe_int) (pa_cons pe_int pa_nil)) (by rfl))
      (pss_cons (ps_while PassesOwn.never (pt_cmp (pc_ge (pv 0) (pv 2))) (pss_one (ps_par (i := 0) (j := 3) (by rfl) sc_L_figures.nd rfl rfl (by decide) rfl rfl (pa_cons (pe_op op_fdivW (pv 0) (pv 2)) (pa_cons (pe_op op_add (pv 3) pe_int) pa_nil)) (by rfl))))
      (pss_cons (ps_while PassesOwn.never (pt_cmp (pc_ge (pv 0) (pv 1))) (pss_one (ps_par (i := 0) (j := 3) (by rfl) sc_L_figures.nd rfl rfl (by decide) rfl rfl (pa_cons (pe_op op_fdivW (pv 0) (pv 1)) (pa_cons (pe_op op_add (pv 3) pe_int) pa_nil)) (by rfl))))
      (pss_one (ps_ret (pv 3)))))), ?_⟩
    refine ⟨_, rfl, _, _, rfl, rfl, ⟨by decide, by decide, ?_⟩, _, _, rfl, ?_⟩
    · show b.natAbs < 2 ^ 64
      omega
    refine ⟨fun m σ H2 => H2 = H ∧ ∃ (y c : Int), σ = [some (.int y), some (.int b), some (.int (b ^ 16)), some (.int c)] ∧ 0 ≤ y ∧ figF b n = figF b y + c - 1 ∧ m = y.toNat, ⟨_, rfl, n, 1, rfl, n0, by omega, rfl⟩, ?_⟩
    rintro m σ H2 ⟨rfl, y, c, rfl, y0, ey, rfl⟩
    refine ⟨_, rfl, _, rfl, _, _, rfl, rfl, _, rfl, ifd (fun z => ?_) (fun z => ?_)⟩
    · have z : y ≥ b ^ 16 := z
      refine ⟨_, fun σ' H' h => h, ?_⟩
      refine ⟨_, rfl, _, rfl, _, _, rfl, rfl, wide_div (b := 130) (by omega) f3 (by decide) (by decide), _, rfl, _, _, rfl, rfl, _, _, rfl, ?_⟩
      have q0 := Int.ediv_nonneg y0 (show 0 ≤ b ^ 16 by omega)
      have q1 : y / b ^ 16 < y := Int.ediv_lt_of_lt_mul (by omega) (by
        have := Int.mul_le_mul_of_nonneg_left (show 2 ≤ b ^ 16 by omega) y0
        omega)
      refine ⟨_, ?_, rfl, y / b ^ 16, c + 16, rfl, q0, ?_, rfl⟩
      · omega
      · rw [ey, fig_div hb z]
        omega
    · refine ⟨fun m σ H3 => H3 = H2 ∧ ∃ (y c : Int), σ = [some (.int y), some (.int b), some (.int (b ^ 16)), some (.int c)] ∧ 0 ≤ y ∧ figF b n = figF b y + c - 1 ∧ m = y.toNat, ⟨_, rfl, y, c, rfl, y0, ey, rfl⟩, ?_⟩
      clear z ey y0
      rintro m σ H3 ⟨rfl, y, c, rfl, y0, ey, rfl⟩
      refine ⟨_, rfl, _, rfl, _, _, rfl, rfl, _, rfl, ifd (fun z => ?_) (fun z => ?_)⟩
      · have z : y ≥ b := z
        refine ⟨_, fun σ' H' h => h, ?_⟩
        refine ⟨_, rfl, _, rfl, _, _, rfl, rfl, wide_div (b := 10) (by omega) (by omega) (by decide) (by decide), _, rfl, _, _, rfl, rfl, _, _, rfl, ?_⟩
        have q0 := Int.ediv_nonneg y0 (show 0 ≤ b by omega)
        have q1 : y / b < y := Int.ediv_lt_of_lt_mul (by omega) (by
          have := Int.mul_le_mul_of_nonneg_left (show 2 ≤ b by omega) y0
          omega)
        refine ⟨_, ?_, rfl, y / b, c + 1, rfl, q0, ?_, rfl⟩
        · omega
        · have := fig_div (j := 1) hb (show b ^ 1 ≤ y by omega)
          rw [f1] at this
          rw [ey, this]
          omega
      · have z : ¬ y ≥ b := z
        have := fig_one hb (show y < b by omega)
        rw [this] at ey
        have e : c = figF b n := by omega
        rw [← e] at k
        exact ⟨_, rfl, k⟩
end
theorem st_eq {F : L2.St → Hp → Prop} {σ : L2.St} {H : Hp} (σ' : L2.St) (e : σ = σ') (k : F σ' H) : F σ H := e ▸ k
theorem hp_eq {F : L2.St → Hp → Prop} {σ : L2.St} {H : Hp} (H2 : Hp) (e : H = H2) (k : F σ H2) : F σ H := e ▸ k
/-! ### does a paper show a claim? (doubled alone) -/
theorem up {H' : Hp} {z : Addr} {o : HO} (hz : H' z = none) : Same H' (upd H' z o) := fun y u e => by
  rw [upd_ne (ne_of_none e hz)]
  exact e
theorem DpAll.len {K : PySem.W.Frag} {H : Hp} : ∀ {xs : List V} {ds : List PyData}, DpAll K H xs ds → xs.length = ds.length
  | _, _, .nil => rfl
  | _, _, .cons _ h => congrArg (· + 1) (DpAll.len h)
theorem sqL_same {K : PySem.W.Frag} {H H' : Hp} {a : Addr} {xs : List V} (s : Same H H') (h : SqL K H a xs) : SqL K H' a xs := by
  rcases h with (h | ⟨o, h⟩) | h
  · exact .inl (.inl (s _ _ h))
  · exact .inl (.inr ⟨o, s _ _ h⟩)
  · exact .inr h
theorem sqT_same {K : PySem.W.Frag} {H H' : Hp} {a : Addr} {xs : List V} (s : Same H H') (h : SqT K H a xs) : SqT K H' a xs := by
  rcases h with (h | ⟨o, h⟩) | h
  · exact .inl (.inl (s _ _ h))
  · exact .inl (.inr ⟨o, s _ _ h⟩)
  · exact .inr h
theorem DpAll.get {K : PySem.W.Frag} {H : Hp} : ∀ {xs : List V} {ds : List PyData}, DpAll K H xs ds → ∀ {i : Nat} {x : V}, xs[i]? = some x → ∃ d, ds[i]? = some d ∧ Dp K H x d
  | _, _, .nil, i, x, e => by simp at e
  | _, _, .cons h g, 0, x, e => by
    simp at e
    subst e
    exact ⟨_, rfl, h⟩
  | _, _, .cons h g, i + 1, x, e => DpAll.get g (by simpa using e)
theorem all_isI : ∀ {ds : List PyData}, (ds.map isI).all id = true → ∃ ns : List Int, ds = ns.map PyData.int
  | [], _ => ⟨[], rfl⟩
  | d :: ds, h => by
    simp only [List.map_cons, List.all_cons, Bool.and_eq_true] at h
    obtain ⟨ns, e⟩ := all_isI h.2
    cases d with
    | int i => exact ⟨i :: ns, by rw [e]; rfl⟩
    | _ => exact absurd h.1 (by simp [isI])
theorem isI_all : ∀ (ns : List Int), ((ns.map PyData.int).map isI).all id = true
  | [] => rfl
  | n :: ns => by
    simp only [List.map_cons, List.all_cons, Bool.and_eq_true]
    exact ⟨rfl, isI_all ns⟩
theorem nb {A : Prop} (h : ¬ A) : false = true ↔ A := ⟨fun z => Bool.noConfusion z, fun z => absurd z h⟩
mutual
theorem Dp.same {K : PySem.W.Frag} {H H' : Hp} (s : Same H H') : ∀ {v : V} {d : PyData}, Dp K H v d → Dp K H' v d
  | _, _, .non => .non
  | _, _, .bl b => .bl b
  | _, _, .int i => .int i
  | _, _, .str x => .str x
  | _, _, .lst h g => .lst (sqL_same s h) (DpAll.same s g)
  | _, _, .tup h g => .tup (sqT_same s h) (DpAll.same s g)
theorem DpAll.same {K : PySem.W.Frag} {H H' : Hp} (s : Same H H') : ∀ {xs : List V} {ds : List PyData}, DpAll K H xs ds → DpAll K H' xs ds
  | _, _, .nil => .nil
  | _, _, .cons h g => .cons (Dp.same s h) (DpAll.same s g)
end
def spNone : Sp := fun _ _ _ _ => False
def DblP (ds : List PyData) (d2 : PyData) : Prop := ∃ b c n x y : Int, ds = [.int b, .int c, .int n] ∧ d2 = .tuple [.int x, .int y] ∧ 2 ≤ b ∧ b ≤ 256 ∧ 0 ≤ c ∧ c ≤ 1000 ∧ 0 ≤ n ∧ n ≤ 10 ^ 60 - 1 ∧ 0 ≤ x ∧ x < y ∧ x = n + c + figF b x ∧ y = n + c + figF b y
def Small (d : PyData) : Prop := ∀ x y : Int, d = .tuple [.int x, .int y] → x < 10 ^ 63 ∧ y < 10 ^ 63
def spAreI (K : PySem.W.Frag) : Sp := fun vs H Q _ => ∃ (v : V) (d : PyData) (k : Nat), vs = [v, .int k] ∧ Dp K H v d ∧ k ≤ 10 ∧ ∀ r H', (r = true ↔ ∃ ns : List Int, d = .tuple (ns.map PyData.int) ∧ ns.length = k) → Same H H' → Q (.bl r) H'
def spDbl (K : PySem.W.Frag) : Sp := fun vs H Q _ => ∃ (a : Addr) (u : V) (xs : List V) (ds : List PyData) (d : PyData), vs = [.ref a, u] ∧ SqT K H a xs ∧ DpAll K H xs ds ∧ Dp K H u d ∧ Small d ∧ ∀ r H', (r = true ↔ DblP ds d) → Same H H' → Q (.bl r) H'
section
variable {P : Program} {w : World} {K : PySem.W.Frag} {mg : Str → Option Value} {base : Heap}
theorem ok_has_size (T : Tx w K mg) : Prom P w K mg base CX0 1 "has_size" s_has_size ["rest"] spNone :=
  Prom.of T.d_has_size sc_has_size (fun vs H Q E h => absurd h id) (fun _ _ _ _ _ _ us hl => match us, hl with | [_], _ => rfl) (fun f cdv A outer s H vs Q E hr h => absurd h id)
theorem ok_unlike_sizes (T : Tx w K mg) : Prom P w K mg base CX0 1 "unlike_sizes" s_unlike_sizes ["rest", "longer"] spNone :=
  Prom.of T.d_unlike_sizes sc_unlike_sizes (fun vs H Q E h => absurd h id) (fun _ _ _ _ _ _ us hl => match us, hl with | [_, _], _ => rfl) (fun f cdv A outer s H vs Q E hr h => absurd h id)
theorem ok_shows_payload (T : Tx w K mg) : Prom P w K mg base CX0 1 "shows_payload" s_shows_payload ["rest", "paper"] spNone :=
  Prom.of T.d_shows_payload sc_shows_payload (fun vs H Q E h => absurd h id) (fun _ _ _ _ _ _ us hl => match us, hl with | [_, _], _ => rfl) (fun f cdv A outer s H vs Q E hr h => absurd h id)
theorem ok_shows_missed (T : Tx w K mg) : Prom P w K mg base CX0 1 "shows_missed" s_shows_missed ["rest", "paper"] spNone :=
  Prom.of T.d_shows_missed sc_shows_missed (fun vs H Q E h => absurd h id) (fun _ _ _ _ _ _ us hl => match us, hl with | [_, _], _ => rfl) (fun f cdv A outer s H vs Q E hr h => absurd h id)
theorem ok_shows_stopped (T : Tx w K mg) : Prom P w K mg base CX0 1 "shows_stopped" s_shows_stopped ["rest", "paper"] spNone :=
  Prom.of T.d_shows_stopped sc_shows_stopped (fun vs H Q E h => absurd h id) (fun _ _ _ _ _ _ us hl => match us, hl with | [_, _], _ => rfl) (fun f cdv A outer s H vs Q E hr h => absurd h id)
theorem ok_are_integers (T : Tx w K mg) : Prom P w K mg base CX0 2 "are_integers" s_are_integers ["value", "count"] (spAreI K) := by
  refine Prom.of T.d_are_integers sc_are_integers (fun vs H Q E h => ?_) (fun _ _ _ _ _ _ us hl => match us, hl with | [_, _], _ => rfl) (fun f cdv A outer s H vs Q E hr h => ?_)
  · obtain ⟨v, d, n, rfl, _⟩ := h
    rfl
  · obtain ⟨v, d, n, rfl, hd, n10, k⟩ := h
    refine ⟨_, (pss_one (ps_ret (pe_and (pe_callB call_isi (by rfl) T.b_isinstance (by decide +kernel) (pa_cons (pv 0) (pa_cons (pe_bltn (v := .ty "tuple") (by rfl) T.b_tuple (by decide +kernel) rfl) pa_nil))) (pe_and (pe_cmp (pc_eqI (pe_callB call_len_seq (by rfl) T.b_len (by decide +kernel) (pa_cons (pv 0) pa_nil)) (pv 1))) (pe_one (pe_callB (cr_all rfl) (by rfl) T.b_all (by decide +kernel) (pa_cons (pe_lc (own := [("part", 2)]) (g := (gName 2)) (tt := tYes) (by rfl) sc_are_integers.nd (pi_tup (pv 0)) (blkOk_by (own := [("part", 2)]) (N := ["value", "count", "part"]) (sc := defScope s_are_integers) (by decide +kernel)) (fun _ _ _ _ _ => (pg_name (i := 2) sc_are_integers.nd rfl (Or.inl rfl))) (fun _ _ _ _ _ => pts_nil) (fun _ _ _ _ _ => (pe_callP (ok_is_integer T) (hr.mono (by decide)) (by rfl) pass0 (pa_cons (pv 2) pa_nil)))) pa_nil))))))), ?_⟩
    have other : (∀ ds, d ≠ .tuple ds) → ¬ ∃ ns : List Int, d = .tuple (ns.map PyData.int) ∧ ns.length = n := fun h ⟨ns, e, _⟩ => h _ e
    cases hd with
    | tup h1 h2 =>
      rename_i a xs ds
      have xl := DpAll.len h2
      refine ⟨_, rfl, _, _, _, _, true, rfl, .ty _, dp_ty (.tup h1 h2), kit_ty (a := "tuple") (by decide +kernel), true, rfl, iteT ?_⟩
      refine ⟨_, rfl, a, xs, rfl, .inr h1, _, rfl, _, _, rfl, rfl, _, rfl, ifd (fun c => ?_) (fun c => ?_)⟩
      · have c : (xs.length : Int) = (n : Int) := c
        refine ⟨_, rfl, a, rfl, ⟨_, h1⟩, fun D hD => ?_⟩
        refine lc_tup (K := K) (a := a) (xs := xs) (Pv := fun j H' => Same H H' ∧ H' D = some (.lst (((ds.take j).map isI).map V.bl))) ⟨up hD, upd_same⟩ (fun j H' _ h => sqT_same h.1 h1) ?_ ?_
        · rintro j x H1 hj ⟨hs, hd⟩
          obtain ⟨e, he, hx⟩ := DpAll.get h2 hj
          refine ⟨rfl, _, rfl, x, e, rfl, Dp.same hs hx, _, hd, ?_, fun y o e => ?_, ?_⟩
          · rw [List.length_map, List.length_map, List.length_take, sizeLine_eq]
            omega
          · rw [upd_ne (ne_of_none e hD)]
            exact hs _ _ e
          · rw [upd_same, List.take_succ, he, List.map_append, List.map_append]
            rfl
        rintro H1 ⟨hs, hd⟩
        rw [xl, List.take_length] at hd
        refine ⟨D, ds.map isI, rfl, SqL.of hd, k _ _ ⟨fun z => ?_, fun ⟨ns, e, e2⟩ => ?_⟩ hs⟩
        · obtain ⟨ns, e⟩ := all_isI z
          refine ⟨ns, by rw [e], ?_⟩
          rw [e, List.length_map] at xl
          omega
        · cases e
          exact isI_all ns
      · refine k _ _ (nb fun ⟨ns, e, e2⟩ => c ?_) (Same.refl H)
        cases e
        show (xs.length : Int) = (n : Int)
        rw [xl, List.length_map, e2]
    | int i => exact ⟨_, rfl, _, _, _, _, false, rfl, .ty _, dp_ty (.int i), kit_ty (a := "int") (by decide +kernel), false, rfl, iteF (k _ _ (nb (other fun _ z => by cases z)) (Same.refl H))⟩
    | bl i => exact ⟨_, rfl, _, _, _, _, false, rfl, .ty _, dp_ty (.bl i), kit_ty (a := "bool") (by decide +kernel), false, rfl, iteF (k _ _ (nb (other fun _ z => by cases z)) (Same.refl H))⟩
    | non => exact ⟨_, rfl, _, _, _, _, false, rfl, .ty _, dp_ty .non, kit_ty (a := "NoneType") (by decide +kernel), false, rfl, iteF (k _ _ (nb (other fun _ z => by cases z)) (Same.refl H))⟩
    | str x => exact ⟨_, rfl, _, _, _, _, false, rfl, .ty _, dp_ty (.str x), kit_ty (a := "str") (by decide +kernel), false, rfl, iteF (k _ _ (nb (other fun _ z => by cases z)) (Same.refl H))⟩
    | lst h1 h2 => exact ⟨_, rfl, _, _, _, _, false, rfl, .ty _, dp_ty (.lst h1 h2), kit_ty (a := "list") (by decide +kernel), false, rfl, iteF (k _ _ (nb (other fun _ z => by cases z)) (Same.refl H))⟩
end
theorem DpAll.one {K : PySem.W.Frag} {H : Hp} {x : V} {xs : List V} {ds : List PyData} (h : DpAll K H (x :: xs) ds) : ∃ e es, ds = e :: es ∧ Dp K H x e ∧ DpAll K H xs es := by
  cases h with
  | cons a b => exact ⟨_, _, rfl, a, b⟩
theorem DpAll.zero {K : PySem.W.Frag} {H : Hp} {ds : List PyData} (h : DpAll K H [] ds) : ds = [] := by
  cases h
  rfl
theorem three {xs : List V} (c : (xs.length : Int) = 3) : ∃ x0 x1 x2, xs = [x0, x1, x2] := by
  have c : xs.length = 3 := by omega
  match xs, c with
  | [x0, x1, x2], _ => exact ⟨x0, x1, x2, rfl⟩
theorem two {xs : List V} (c : (xs.length : Int) = 2) : ∃ x0 x1, xs = [x0, x1] := by
  have c : xs.length = 2 := by omega
  match xs, c with
  | [x0, x1], _ => exact ⟨x0, x1, rfl⟩
theorem iteB {b : Bool} {A B : Prop} (h1 : b = false → A) (h2 : b = true → B) : if (!b) = true then A else B := by
  cases b with
  | false => exact h1 rfl
  | true => exact h2 rfl
theorem inR_int {l m : Int} {d : PyData} (h : inR l m d = true) : ∃ i, d = .int i ∧ l ≤ i ∧ i ≤ m := by
  cases d with
  | int i => exact ⟨i, rfl, of_decide_eq_true h⟩
  | _ => exact Bool.noConfusion h
theorem inR_no {l m i : Int} (h : inR l m (.int i) = false) : ¬ (l ≤ i ∧ i ≤ m) := of_decide_eq_false h
section
variable {P : Program} {w : World} {K : PySem.W.Frag} {mg : Str → Option Value} {base : Heap}
theorem ok_shows_doubled (T : Tx w K mg) : Prom P w K mg base CX0 4 "shows_doubled" s_shows_doubled ["rest", "paper"] (spDbl K) := by
  refine Prom.of T.d_shows_doubled sc_shows_doubled (fun vs H Q E h => ?_) (fun _ _ _ _ _ _ us hl => match us, hl with | [_, _], _ => rfl) (fun f cdv A outer s H vs Q E hr h => ?_)
  · obtain ⟨a, u, xs, ds, d, rfl, _⟩ := h
    rfl
  · obtain ⟨a, u, xs, ds, d, rfl, hS, hD, hd, sm, k⟩ := h
    have xl := DpAll.len hD
    refine ⟨_, (pss_cons (ps_if (PW.pt (pw_or (pt_cmp (pc_neI (pe_callB call_len_seq (by rfl) T.b_len (by decide +kernel) (pa_cons (pv 0) pa_nil)) pe_int)) (pw_or (pt_not (pt_val (pe_callP (ok_is_between T) (hr.mono (by decide)) (by rfl) pass0 (pa_cons (pe_ix ix_tup (pv 0) pe_int (fun _ _ => rfl)) (pa_cons pe_int (pa_cons pe_int pa_nil)))))) (pw_or1 (pt_not (pt_val (pe_callP (ok_is_between T) (hr.mono (by decide)) (by rfl) pass0 (pa_cons (pe_ix ix_tup (pv 0) pe_int (fun _ _ => rfl)) (pa_cons pe_int (pa_cons (pe_gint T.c_MOST_CONSTANT) pa_nil)))))))))) (pss_one (ps_ret pe_bl)) pss_nil)
      (pss_cons (ps_if (PW.pt (pw_or (pt_not (pt_val (pe_callP (ok_is_length T) (hr.mono (by decide)) (by rfl) pass0 (pa_cons (pe_ix ix_tup (pv 0) pe_int (fun _ _ => rfl)) pa_nil)))) (pw_or (pt_not (pt_val (pe_callP (ok_are_integers T) (hr.mono (by decide)) (by rfl) pass0 (pa_cons (pv 1) (pa_cons pe_int pa_nil))))) (pw_or1 (pt_not (pt_chain op_le op_lt pe_int (pe_ix ix_tup (pv 1) pe_int (fun _ _ => rfl)) (pe_ix ix_tup (pv 1) pe_int (fun _ _ => rfl)))))))) (pss_one (ps_ret pe_bl)) pss_nil)
      (pss_one (ps_ret (pe_callB (cr_all rfl) (by rfl) T.b_all (by decide +kernel) (pa_cons (pe_lc (own := [("total", 2)]) (g := (gName 2)) (tt := tYes) (by rfl) sc_shows_doubled.nd (pi_tup (pv 1)) (blkOk_by (own := [("total", 2)]) (N := ["rest", "paper", "total"]) (sc := defScope s_shows_doubled) (by decide +kernel)) (fun _ _ _ _ _ => (pg_name (i := 2) sc_shows_doubled.nd rfl (Or.inl rfl))) (fun _ _ _ _ _ => pts_nil) (fun _ _ _ _ _ => (pe_cmp (pc_eqI (pv 2) (pe_op op_add (pe_op op_add (pe_ix (show IxR _ (rIxT K) from ix_tup) (pv 0) pe_int (fun _ _ => rfl)) (pe_ix (show IxR _ (rIxT K) from ix_tup) (pv 0) pe_int (fun _ _ => rfl))) (pe_callP (ok_figures_of T) (hr.mono (by decide)) (by rfl) pass0 (pa_cons (pv 2) (pa_cons (pe_ix (show IxR _ (rIxT K) from ix_tup) (pv 0) pe_int (fun _ _ => rfl)) pa_nil)))))))) pa_nil)))))), ?_⟩
    refine ⟨_, rfl, a, xs, rfl, .inr hS, _, _, rfl, rfl, _, rfl, ifn (fun c => ?_) (fun c => ?_)⟩
    · refine k _ _ (nb fun ⟨_, _, _, _, _, e, _⟩ => c ?_) (Same.refl H)
      rw [xl, e]
      rfl
    obtain ⟨x0, x1, x2, rfl⟩ := three c
    obtain ⟨e0, es, rfl, hx0, hD⟩ := DpAll.one hD
    obtain ⟨e1, es, rfl, hx1, hD⟩ := DpAll.one hD
    obtain ⟨e2, es, rfl, hx2, hD⟩ := DpAll.one hD
    obtain rfl := DpAll.zero hD
    clear xl c
    have fin : ∀ H', Same H H' → ¬ DblP [e0, e1, e2] d → Q (.bl false) H' := fun H' s n => k _ _ (nb n) s
    refine ⟨_, rfl, a, _, _, x0, rfl, rfl, hS, at_of (j := 0) rfl rfl, x0, e0, _, _, rfl, hx0, _, rfl, iteB (fun c0 => ?_) (fun c0 => ?_)⟩
    · refine fin _ (Same.refl H) fun ⟨b, c, n, x, y, e, _, h1, h2, _⟩ => ?_
      cases e
      exact inR_no c0 ⟨h1, h2⟩
    obtain ⟨b, rfl, b1, b2⟩ := inR_int c0
    refine ⟨_, rfl, a, _, _, x1, rfl, rfl, hS, at_of (j := 1) rfl rfl, x1, e1, _, _, rfl, hx1, _, rfl, iteB (fun c1 => ?_) (fun c1 => ?_)⟩
    · refine fin _ (Same.refl H) fun ⟨b, c, n, x, y, e, _, h1, h2, h3, h4, _⟩ => ?_
      cases e
      exact inR_no c1 ⟨h3, h4⟩
    obtain ⟨c, rfl, b3, b4⟩ := inR_int c1
    refine ⟨_, rfl, a, _, _, x2, rfl, rfl, hS, at_of (j := 2) rfl rfl, x2, e2, rfl, hx2, _, rfl, iteB (fun c2 => ?_) (fun c2 => ?_)⟩
    · refine fin _ (Same.refl H) fun ⟨b, c, n, x, y, e, _, h1, h2, h3, h4, h5, h6, _⟩ => ?_
      cases e
      exact inR_no c2 ⟨h5, h6⟩
    obtain ⟨n, rfl, b5, b6⟩ := inR_int c2
    refine ⟨_, rfl, u, d, 2, rfl, hd, by decide, fun r H1 hr1 s1 => ⟨_, rfl, iteB (fun c3 => ?_) (fun c3 => ?_)⟩⟩
    · refine fin _ s1 fun ⟨b, c, n, x, y, _, e, _⟩ => ?_
      have z := hr1.mpr ⟨[x, y], e, rfl⟩
      rw [c3] at z
      cases z
    obtain ⟨ns, rfl, nl⟩ := hr1.mp c3
    obtain ⟨x, y, rfl⟩ : ∃ x y, ns = [x, y] := by
      match ns, nl with
      | [x, y], _ => exact ⟨x, y, rfl⟩
    cases hd with
    | tup hP hI =>
    rename_i p xs
    obtain ⟨sx, sy⟩ := sm x y rfl
    obtain ⟨y0, y1, rfl⟩ := two (xs := xs) (by rw [DpAll.len hI]; rfl)
    obtain ⟨_, _, z, h0, hI⟩ := DpAll.one hI
    cases z
    obtain ⟨_, _, z, h1, hI⟩ := DpAll.one hI
    cases z
    clear hr1 nl hI c0 c1 c2 hD
    cases hx0
    cases hx1
    cases hx2
    cases h0
    cases h1
    have hP1 := sqT_same s1 hP
    have hS1 := sqT_same s1 hS
    refine ⟨_, rfl, p, _, _, _, rfl, rfl, hP1, at_of (j := 0) rfl rfl, _, _, rfl, rfl, _, rfl, ifd (fun c4 => ?_) (fun c4 => ?_)⟩
    · have c4 : 0 ≤ x := c4
      refine ⟨_, rfl, p, _, _, _, rfl, rfl, hP1, at_of (j := 1) rfl rfl, _, _, rfl, rfl, _, rfl, ifn (fun c5 => ?_) (fun c5 => ?_)⟩
      · refine fin _ s1 fun ⟨b, c, n, x, y, _, e, _, _, _, _, _, _, _, h, _⟩ => c5 ?_
        cases e
        exact h
      have c5 : x < y := c5
      refine ⟨_, rfl, p, rfl, ⟨_, hP1⟩, fun D hD => ?_⟩
      refine lc_tup (K := K) (a := p) (xs := [.int x, .int y]) (Pv := fun j H' => Same H1 H' ∧ H' D = some (.lst ((([x, y].take j).map fun t => decide (t = n + c + figF b t)).map V.bl))) ⟨up hD, upd_same⟩ (fun j H' _ h => sqT_same h.1 hP1) ?_ ?_
      · rintro j v H2 hj ⟨hs, hd⟩
        obtain ⟨t, rfl, ht, tb⟩ : ∃ t : Int, v = .int t ∧ [x, y][j]? = some t ∧ t < 10 ^ 63 := by
          match j, hj with
          | 0, h => cases h; exact ⟨x, rfl, rfl, sx⟩
          | 1, h => cases h; exact ⟨y, rfl, rfl, sy⟩
        have hS2 := sqT_same hs hS1
        refine ⟨rfl, _, rfl, ?_⟩
        refine ⟨_, rfl, a, _, _, _, rfl, rfl, hS2, at_of (j := 2) rfl rfl, _, rfl, a, _, _, _, rfl, rfl, hS2, at_of (j := 1) rfl rfl, _, _, rfl, rfl, _, rfl, _, rfl, a, _, _, _, rfl, rfl, hS2, at_of (j := 0) rfl rfl, ?_⟩
        refine ⟨t, b, rfl, b1, b2, Int.lt_trans tb (by decide), fun k0 hk => ⟨_, _, rfl, rfl, _, _, rfl, rfl, _, hd, ?_, fun q o e => ?_, ?_⟩⟩
        · rw [List.length_map, List.length_map, List.length_take, sizeLine_eq]
          show min j 2 < _
          omega
        · rw [upd_ne (ne_of_none e hD)]
          exact hs _ _ e
        · rw [upd_same, List.take_succ, ht, List.map_append, List.map_append, figF_eq b1 hk]
          rfl
      rintro H2 ⟨hs, hd⟩
      refine ⟨D, [x, y].map fun t => decide (t = n + c + figF b t), rfl, SqL.of hd, k _ _ ⟨fun z => ?_, fun ⟨b', c', n', x', y', e1, e2, _, _, _, _, _, _, _, _, e3, e4⟩ => ?_⟩ (fun q o e => hs _ _ (s1 _ _ e))⟩
      · simp only [List.map_cons, List.map_nil, List.all_cons, List.all_nil, Bool.and_eq_true, decide_eq_true_eq, id] at z
        exact ⟨b, c, n, x, y, rfl, rfl, b1, b2, b3, b4, b5, b6, c4, c5, z.1, z.2.1⟩
      · cases e1
        cases e2
        simp only [List.map_cons, List.map_nil, List.all_cons, List.all_nil, Bool.and_eq_true, decide_eq_true_eq, id]
        exact ⟨e3, e4, trivial⟩
    · refine ⟨_, rfl, fin _ s1 fun ⟨b, c, n, x, y, _, e, _, _, _, _, _, _, h, _⟩ => c4 ?_⟩
      cases e
      exact h
end
def WordOk (d : PyData) : Prop := ∀ s ds, d = .tuple (.str s :: ds) → s ≠ "other" ∧ s ≠ "longer" ∧ s ≠ "size" ∧ s ≠ "payload" ∧ s ≠ "missed" ∧ s ≠ "stopped"
def HoldsP (d e : PyData) : Prop := ∃ ds, d = .tuple (.str "doubled" :: ds) ∧ DblP ds e
def spHolds (K : PySem.W.Frag) : Sp := fun vs H Q _ => ∃ (v u : V) (d e : PyData), vs = [v, u] ∧ Dp K H v d ∧ Dp K H u e ∧ Small e ∧ WordOk d ∧ ∀ r H', (r = true ↔ HoldsP d e) → Same H H' → Q (.bl r) H'
theorem ifw_neg {b : Bool} {A B : Prop} (h : b = false) (a : B) : if b = true then A else B := by
  rw [h, if_neg Bool.false_ne_true]
  exact a
theorem eqw_neg {x y : Str} {A B : Prop} (h : x ≠ y) (a : B) : if decide (V.str x = V.str y) = true then A else B :=
  ifw_neg (decide_eq_false fun z => h (by cases z; rfl)) a
theorem in_no {x a b c : Str} (h1 : x ≠ a) (h2 : x ≠ b) (h3 : x ≠ c) : (if false = true then !inV (.str x) [.str a, .str b, .str c] else inV (.str x) [.str a, .str b, .str c]) = false := by
  show ((a == x) || ((b == x) || ((c == x) || false))) = false
  rw [beq_eq_false_iff_ne.mpr (Ne.symm h1), beq_eq_false_iff_ne.mpr (Ne.symm h2), beq_eq_false_iff_ne.mpr (Ne.symm h3)]
  rfl
section
variable {P : Program} {w : World} {K : PySem.W.Frag} {mg : Str → Option Value} {base : Heap}
theorem ok_holds (T : Tx w K mg) : Prom P w K mg base CX0 5 "holds" s_holds ["claim", "paper"] (spHolds K) := by
  refine Prom.of T.d_holds sc_holds (fun vs H Q E h => ?_) (fun _ _ _ _ _ _ us hl => match us, hl with | [_, _], _ => rfl) (fun f cdv A outer s H vs Q E hr h => ?_)
  · obtain ⟨v, u, d, e, rfl, _⟩ := h
    rfl
  · obtain ⟨v, u, d, e, rfl, hd, he, sm, wo, k⟩ := h
    refine ⟨_, (pss_cons (ps_if (PW.pt (pw_or (pt_not (pt_val (pe_callB call_isi (by rfl) T.b_isinstance (by decide +kernel) (pa_cons (pv 0) (pa_cons (pe_bltn (v := .ty "tuple") (by rfl) T.b_tuple (by decide +kernel) rfl) pa_nil))))) (pw_or (pt_cmp (pc_eqI (pe_callB call_len_seq (by rfl) T.b_len (by decide +kernel) (pa_cons (pv 0) pa_nil)) pe_int)) (pw_or1 (pt_not (pt_val (pe_callB call_isi (by rfl) T.b_isinstance (by decide +kernel) (pa_cons (pe_ix ix_tup (pv 0) pe_int (fun _ _ => rfl)) (pa_cons (pe_bltn (v := .ty "str") (by rfl) T.b_str (by decide +kernel) rfl) pa_nil))))))))) (pss_one (ps_ret pe_bl)) pss_nil)
      (pss_cons (ps_par (i := 2) (j := 3) (by rfl) sc_holds.nd rfl rfl (by decide) rfl rfl (pa_cons (pe_ix ix_tup (pv 0) pe_int (fun _ _ => rfl)) (pa_cons (pe_slice sl_tup (pv 0) (po_some pe_int) po_none) pa_nil)) (by rfl))
      (pss_cons (ps_if (pt_cmpR op_in_seq (pv 2) (pe_tup (pa_cons pe_str (pa_cons pe_str (pa_cons pe_str pa_nil)))) (by rfl)) (pss_cons (ps_if (PW.pt (pw_or (pt_not (pt_val (pe_callB call_isi (by rfl) T.b_isinstance (by decide +kernel) (pa_cons (pv 1) (pa_cons (pe_bltn (v := .ty "tuple") (by rfl) T.b_tuple (by decide +kernel) rfl) pa_nil))))) (pw_or1 (pt_cmp (pc_gt (pe_callB call_len_seq (by rfl) T.b_len (by decide +kernel) (pa_cons (pv 1) pa_nil)) pe_int))))) (pss_one (ps_ret pe_bl)) pss_nil)
      (pss_one (ps_ret (pe_ifExp (pt_cmpR op_eq (pv 2) pe_str (nomark _)) (pe_callP (ok_has_size T) (hr.mono (by decide)) (by rfl) pass0 (pa_cons (pv 3) pa_nil)) (pe_callP (ok_unlike_sizes T) (hr.mono (by decide)) (by rfl) pass0 (pa_cons (pv 3) (pa_cons (pe_cmpR op_eq (pv 2) pe_str (nomark _)) pa_nil))))))) pss_nil)
      (pss_cons (ps_if (pt_cmpR op_eq (pv 2) pe_str (nomark _)) (pss_one (ps_ret (pe_callP (ok_shows_payload T) (hr.mono (by decide)) (by rfl) pass0 (pa_cons (pv 3) (pa_cons (pv 1) pa_nil))))) pss_nil)
      (pss_cons (ps_if (pt_cmpR op_eq (pv 2) pe_str (nomark _)) (pss_one (ps_ret (pe_callP (ok_shows_missed T) (hr.mono (by decide)) (by rfl) pass0 (pa_cons (pv 3) (pa_cons (pv 1) pa_nil))))) pss_nil)
      (pss_cons (ps_if (pt_cmpR op_eq (pv 2) pe_str (nomark _)) (pss_one (ps_ret (pe_callP (ok_shows_doubled T) (hr.mono (by decide)) (by rfl) pass0 (pa_cons (pv 3) (pa_cons (pv 1) pa_nil))))) pss_nil)
      (pss_one (ps_ret (pe_and (pe_cmpR op_eq (pv 2) pe_str (nomark _)) (pe_one (pe_callP (ok_shows_stopped T) (hr.mono (by decide)) (by rfl) pass0 (pa_cons (pv 3) (pa_cons (pv 1) pa_nil))))))))))))), ?_⟩
    have fin : ∀ H', Same H H' → ¬ HoldsP d e → Q (.bl false) H' := fun H' s n => k _ _ (nb n) s
    have other : (∀ ds, d ≠ .tuple ds) → Q (.bl false) H := fun h => fin _ (Same.refl H) fun ⟨ds, e, _⟩ => h _ e
    cases hd with
    | int i => exact ⟨_, rfl, _, _, _, _, false, rfl, .ty _, dp_ty (.int i), kit_ty (a := "int") (by decide +kernel), false, rfl, other fun _ z => by cases z⟩
    | bl i => exact ⟨_, rfl, _, _, _, _, false, rfl, .ty _, dp_ty (.bl i), kit_ty (a := "bool") (by decide +kernel), false, rfl, other fun _ z => by cases z⟩
    | non => exact ⟨_, rfl, _, _, _, _, false, rfl, .ty _, dp_ty .non, kit_ty (a := "NoneType") (by decide +kernel), false, rfl, other fun _ z => by cases z⟩
    | str x => exact ⟨_, rfl, _, _, _, _, false, rfl, .ty _, dp_ty (.str x), kit_ty (a := "str") (by decide +kernel), false, rfl, other fun _ z => by cases z⟩
    | lst h1 h2 => exact ⟨_, rfl, _, _, _, _, false, rfl, .ty _, dp_ty (.lst h1 h2), kit_ty (a := "list") (by decide +kernel), false, rfl, other fun _ z => by cases z⟩
    | tup h1 h2 =>
      rename_i a xs ds
      refine ⟨_, rfl, _, _, _, _, true, rfl, .ty _, dp_ty (.tup h1 h2), kit_ty (a := "tuple") (by decide +kernel), true, rfl, ?_⟩
      refine ⟨_, rfl, a, xs, rfl, .inr h1, _, _, rfl, rfl, _, rfl, ifd (fun c => ?_) (fun c => ?_)⟩
      · refine fin _ (Same.refl H) fun ⟨ds', e, _⟩ => ?_
        cases e
        have z := DpAll.len h2
        rw [z] at c
        exact absurd c (by show ¬ (((ds'.length + 1 : Nat) : Int) = 0); omega)
      cases h2 with
      | nil => exact absurd rfl c
      | cons hx h2 =>
        rename_i x xs e0 es
        clear c
        have e0no : (∀ s, e0 ≠ .str s) → Q (.bl false) H := fun h => fin _ (Same.refl H) fun ⟨ds, e, _⟩ => by
          cases e
          exact h _ rfl
        refine ⟨_, rfl, a, _, _, x, rfl, rfl, h1, at_of (j := 0) rfl rfl, ?_⟩
        cases hx with
        | int i => exact ⟨_, _, _, _, false, rfl, .ty _, dp_ty (.int i), kit_ty (a := "int") (by decide +kernel), false, rfl, e0no fun _ z => by cases z⟩
        | bl i => exact ⟨_, _, _, _, false, rfl, .ty _, dp_ty (.bl i), kit_ty (a := "bool") (by decide +kernel), false, rfl, e0no fun _ z => by cases z⟩
        | non => exact ⟨_, _, _, _, false, rfl, .ty _, dp_ty .non, kit_ty (a := "NoneType") (by decide +kernel), false, rfl, e0no fun _ z => by cases z⟩
        | lst g1 g2 => exact ⟨_, _, _, _, false, rfl, .ty _, dp_ty (.lst g1 g2), kit_ty (a := "list") (by decide +kernel), false, rfl, e0no fun _ z => by cases z⟩
        | tup g1 g2 => exact ⟨_, _, _, _, false, rfl, .ty _, dp_ty (.tup g1 g2), kit_ty (a := "tuple") (by decide +kernel), false, rfl, e0no fun _ z => by cases z⟩
        | str x =>
          obtain ⟨n1, n2, n3, n4, n5, n6⟩ := wo _ _ rfl
          refine ⟨_, _, _, _, true, rfl, .ty _, dp_ty (.str x), kit_ty (a := "str") (by decide +kernel), true, rfl, ?_⟩
          refine ⟨_, rfl, a, _, _, _, rfl, rfl, h1, at_of (j := 0) rfl rfl, ?_⟩
          refine ⟨_, rfl, _, rfl, a, _, rfl, h1, ?_, fun q hq => ?_⟩
          · intro z
            have z := z.1
            have e : HT.sIx (V.str x :: xs).length 0 (some 1) = min 1 (xs.length + 1) := HT.sIx_nat _ 0 1
            omega
          refine ⟨_, _, rfl, ?_⟩
          have s1 : Same H (upd H q (.tup (cutV (V.str x :: xs) (some 1) none))) := up hq
          refine st_eq [some (.ref a), some u, some (.str x), some (.ref q)] rfl ?_
          refine ⟨_, rfl, (by show 3 ≤ sizeLine; decide), fun p hp => ?_⟩
          have s2 : Same H (upd (upd H q (.tup (cutV (V.str x :: xs) (some 1) none))) p (.tup [.str "other", .str "longer", .str "size"])) := fun y o e => up hp _ _ (s1 _ _ e)
          refine ⟨p, _, rfl, .inr (SqT.of upd_same), rfl, rfl, _, rfl, ifw_neg (in_no n1 n2 n3) ?_⟩
          refine ⟨_, rfl, rfl, _, rfl, eqw_neg n4 ?_⟩
          refine ⟨_, rfl, rfl, _, rfl, eqw_neg n5 ?_⟩
          refine ⟨_, rfl, rfl, _, rfl, ifd (fun c => ?_) (fun c => ?_)⟩
          · cases c
            have ec : cutV (V.str "doubled" :: xs) (some 1) none = xs := by
              have e : HT.sIx (V.str "doubled" :: xs).length 0 (some 1) = min 1 (xs.length + 1) := HT.sIx_nat _ 0 1
              unfold cutV
              rw [e, HT.sIx_none, List.length_cons, Nat.min_eq_left (by omega)]
              exact List.take_length
            have g : upd (upd H q (.tup (cutV (V.str "doubled" :: xs) (some 1) none))) p (.tup [.str "other", .str "longer", .str "size"]) q = some (.tup xs) := by
              rw [ec] at hp ⊢
              exact up hp _ _ upd_same
            refine ⟨_, rfl, _, rfl, q, u, xs, es, e, rfl, SqT.of g, DpAll.same s2 h2, Dp.same s2 he, sm, fun r H' hr hs => k r H' ⟨fun z => ⟨es, rfl, hr.mp z⟩, fun ⟨ds, e, z⟩ => ?_⟩ (fun y o e => hs _ _ (s2 _ _ e))⟩
            cases e
            exact hr.mpr z
          · refine ⟨_, rfl, rfl, _, rfl, eqw_neg n6 ?_⟩
            refine fin _ s2 fun ⟨ds, e, _⟩ => c ?_
            cases e
            rfl
end
/-! ### the law's own reader of a claim "doubled" and its paper -/
def spLIs (K : PySem.W.Frag) : Sp := fun vs H Q _ => ∃ (v : V) (d : PyData) (m : Int), vs = [v, .int m] ∧ Dp K H v d ∧ Q (.bl (inR 0 m d)) H
section
variable {P : Program} {w : World} {K : PySem.W.Frag} {mg : Str → Option Value} {base : Heap}
theorem ok_L_is (T : Tx w K mg) : Prom P w K mg base CX0 1 "_law_is" s_L_is ["_law_thing", "_law_most"] (spLIs K) := by
  refine Prom.of T.d_L_is sc_L_is (fun vs H Q E h => ?_) (fun _ _ _ _ _ _ us hl => match us, hl with | [_, _], _ => rfl) (fun f cdv A outer s H vs Q E hr h => ?_)
  · obtain ⟨v, d, m, rfl, _⟩ := h
    rfl
  · obtain ⟨v, d, m, rfl, hd, k⟩ := h
    refine ⟨_, (pss_one (ps_ret (pe_and (pe_callB call_isi (by rfl) T.b_isinstance (by decide +kernel) (pa_cons (pv 0) (pa_cons (pe_bltn (v := .ty "int") (by rfl) T.b_int (by decide +kernel) rfl) pa_nil))) (pe_and (pe_not (pe_callB call_isi (by rfl) T.b_isinstance (by decide +kernel) (pa_cons (pv 0) (pa_cons (pe_bltn (v := .ty "bool") (by rfl) T.b_bool (by decide +kernel) rfl) pa_nil)))) (pe_one (pe_chain op_le op_le pe_int (pv 0) (pv 1))))))), ?_⟩
    cases hd with
    | int i =>
      refine ⟨_, rfl, _, _, _, _, true, rfl, .ty _, .base (.int _), kit_ty (by decide +kernel), true, rfl, iteT ?_⟩
      refine ⟨_, rfl, _, _, _, _, false, rfl, .ty _, .base (.int _), kit_ty (b := "bool") (by decide +kernel), false, rfl, true, rfl, iteT ?_⟩
      refine ⟨_, rfl, _, _, rfl, rfl, _, rfl, ifd (fun h1 => ?_) (fun h1 => ?_)⟩
      · refine ⟨_, rfl, _, _, rfl, rfl, ?_⟩
        show Q (.bl (decide (i ≤ m))) H
        have e : decide (i ≤ m) = decide (0 ≤ i ∧ i ≤ m) := by simp [h1]
        rw [e]
        exact k
      · show Q (.bl false) H
        have e : false = decide (0 ≤ i ∧ i ≤ m) := by simp [h1]
        rw [e]
        exact k
    | bl b =>
      refine ⟨_, rfl, _, _, _, _, true, rfl, .ty _, .base (.bl _), kit_ty (by decide +kernel), true, rfl, iteT ?_⟩
      exact ⟨_, rfl, _, _, _, _, true, rfl, .ty _, .base (.bl _), kit_ty (b := "bool") (by decide +kernel), true, rfl, false, rfl, iteF k⟩
    | non => exact ⟨_, rfl, _, _, _, _, false, rfl, .ty _, dp_ty .non, kit_ty (a := "NoneType") (by decide +kernel), false, rfl, iteF k⟩
    | str x => exact ⟨_, rfl, _, _, _, _, false, rfl, .ty _, dp_ty (.str x), kit_ty (a := "str") (by decide +kernel), false, rfl, iteF k⟩
    | lst h1 h2 => exact ⟨_, rfl, _, _, _, _, false, rfl, .ty _, dp_ty (.lst h1 h2), kit_ty (a := "list") (by decide +kernel), false, rfl, iteF k⟩
    | tup h1 h2 => exact ⟨_, rfl, _, _, _, _, false, rfl, .ty _, dp_ty (.tup h1 h2), kit_ty (a := "tuple") (by decide +kernel), false, rfl, iteF k⟩
end
def HeadOk (d : PyData) : Prop := ∀ ds, d = .tuple ds → ds.length = 4 → ∃ s es, ds = .str s :: es
def spTruth (K : PySem.W.Frag) : Sp := fun vs H Q _ => ∃ (v u : V) (d e : PyData), vs = [v, u] ∧ Dp K H v d ∧ Dp K H u e ∧ Small e ∧ HeadOk d ∧ ∀ r H', (r = true ↔ HoldsP d e) → Same H H' → Q (.bl r) H'
theorem four {xs : List V} (c : (xs.length : Int) = 4) : ∃ x0 x1 x2 x3, xs = [x0, x1, x2, x3] := by
  have c : xs.length = 4 := by omega
  match xs, c with
  | [x0, x1, x2, x3], _ => exact ⟨x0, x1, x2, x3, rfl⟩
section
variable {P : Program} {w : World} {K : PySem.W.Frag} {mg : Str → Option Value} {base : Heap}
theorem ok_L_truth (T : Tx w K mg) : Prom P w K mg base CX0 2 "_law_truth" s_L_truth ["_law_claim_here", "_law_page_here"] (spTruth K) := by
  refine Prom.of T.d_L_truth sc_L_truth (fun vs H Q E h => ?_) (fun _ _ _ _ _ _ us hl => match us, hl with | [_, _], _ => rfl) (fun f cdv A outer s H vs Q E hr h => ?_)
  · obtain ⟨v, u, d, e, rfl, _⟩ := h
    rfl
  · obtain ⟨v, u, d, e, rfl, hd, he, sm, ho, k⟩ := h
    refine ⟨_, (pss_cons (ps_if (PW.pt (pw_or (pt_not (pt_val (pe_callB call_isi (by rfl) T.b_isinstance (by decide +kernel) (pa_cons (pv 0) (pa_cons (pe_bltn (v := .ty "tuple") (by rfl) T.b_tuple (by decide +kernel) rfl) pa_nil))))) (pw_or (pt_cmp (pc_neI (pe_callB call_len_seq (by rfl) T.b_len (by decide +kernel) (pa_cons (pv 0) pa_nil)) pe_int)) (pw_or1 (pt_cmpR op_ne (pe_ix ix_tup (pv 0) pe_int (fun _ _ => rfl)) pe_str (nomark _)))))) (pss_one (ps_ret pe_bl)) pss_nil)
      (pss_cons (ps_asg (pe_slice sl_tup (pv 0) (po_some pe_int) po_none) (pg_tup rfl (pgs_cons (pg_name (i := 2) sc_L_truth.nd rfl (Or.inr rfl)) (pgs_cons (pg_name (i := 3) sc_L_truth.nd rfl (Or.inr rfl)) (pgs_cons (pg_name (i := 4) sc_L_truth.nd rfl (Or.inr rfl)) pgs_nil)))))
      (pss_cons (ps_if (PW.pt (pw_or (pt_not (pt_val (pe_callP (ok_L_is T) (hr.mono (by decide)) (by rfl) pass0 (pa_cons (pv 2) (pa_cons pe_int pa_nil))))) (pw_or (pt_cmp (pc_lt (pv 2) pe_int)) (pw_or (pt_not (pt_val (pe_callP (ok_L_is T) (hr.mono (by decide)) (by rfl) pass0 (pa_cons (pv 3) (pa_cons pe_int pa_nil))))) (pw_or1 (pt_not (pt_val (pe_callP (ok_L_is T) (hr.mono (by decide)) (by rfl) pass0 (pa_cons (pv 4) (pa_cons (pe_op op_sub (pe_op op_pow pe_int pe_int) pe_int) pa_nil)))))))))) (pss_one (ps_ret pe_bl)) pss_nil)
      (pss_cons (ps_if (PW.pt (pw_or (pt_not (pt_val (pe_callB call_isi (by rfl) T.b_isinstance (by decide +kernel) (pa_cons (pv 1) (pa_cons (pe_bltn (v := .ty "tuple") (by rfl) T.b_tuple (by decide +kernel) rfl) pa_nil))))) (pw_or1 (pt_cmp (pc_neI (pe_callB call_len_seq (by rfl) T.b_len (by decide +kernel) (pa_cons (pv 1) pa_nil)) pe_int))))) (pss_one (ps_ret pe_bl)) pss_nil)
      (pss_cons (ps_if (PW.pt (pw_or (pt_not (pt_val (pe_callB (cr_all rfl) (by rfl) T.b_all (by decide +kernel) (pa_cons (pe_lc (own := [("_law_some", 5)]) (g := (gName 5)) (tt := tYes) (by rfl) sc_L_truth.nd (pi_tup (pv 1)) (blkOk_by (own := [("_law_some", 5)]) (N := ["_law_claim_here", "_law_page_here", "_law_b", "_law_c", "_law_n", "_law_some"]) (sc := defScope s_L_truth) (by decide +kernel)) (fun _ _ _ _ _ => (pg_name (i := 5) sc_L_truth.nd rfl (Or.inl rfl))) (fun _ _ _ _ _ => pts_nil) (fun _ _ _ _ _ => (pe_callP (ok_L_is T) (hr.mono (by decide)) (by rfl) pass0 (pa_cons (pv 5) (pa_cons (pe_op op_pow pe_int pe_int) pa_nil))))) pa_nil)))) (pw_or1 (pt_cmp (pc_ge (pe_ix ix_tup (pv 1) pe_int (fun _ _ => rfl)) (pe_ix ix_tup (pv 1) pe_int (fun _ _ => rfl))))))) (pss_one (ps_ret pe_bl)) pss_nil)
      (pss_one (ps_ret (pe_callB (cr_all rfl) (by rfl) T.b_all (by decide +kernel) (pa_cons (pe_lc (own := [("_law_some", 5)]) (g := (gName 5)) (tt := tYes) (by rfl) sc_L_truth.nd (pi_tup (pv 1)) (blkOk_by (own := [("_law_some", 5)]) (N := ["_law_claim_here", "_law_page_here", "_law_b", "_law_c", "_law_n", "_law_some"]) (sc := defScope s_L_truth) (by decide +kernel)) (fun _ _ _ _ _ => (pg_name (i := 5) sc_L_truth.nd rfl (Or.inl rfl))) (fun _ _ _ _ _ => pts_nil) (fun _ _ _ _ _ => (pe_cmp (pc_eqI (pe_op op_sub (pe_op op_sub (pv 5) (pe_callP (ok_L_figures T) (hr.mono (by decide)) (by rfl) pass0 (pa_cons (pv 5) (pa_cons (pv 2) pa_nil)))) (pv 3)) (pv 4))))) pa_nil))))))))), ?_⟩
    have fin : ∀ H', Same H H' → ¬ HoldsP d e → Q (.bl false) H' := fun H' s n => k _ _ (nb n) s
    have other : (∀ ds, d ≠ .tuple ds) → Q (.bl false) H := fun h => fin _ (Same.refl H) fun ⟨ds, e, _⟩ => h _ e
    cases hd with
    | int i => exact ⟨_, rfl, _, _, _, _, false, rfl, .ty _, dp_ty (.int i), kit_ty (a := "int") (by decide +kernel), false, rfl, other fun _ z => by cases z⟩
    | bl i => exact ⟨_, rfl, _, _, _, _, false, rfl, .ty _, dp_ty (.bl i), kit_ty (a := "bool") (by decide +kernel), false, rfl, other fun _ z => by cases z⟩
    | non => exact ⟨_, rfl, _, _, _, _, false, rfl, .ty _, dp_ty .non, kit_ty (a := "NoneType") (by decide +kernel), false, rfl, other fun _ z => by cases z⟩
    | str x => exact ⟨_, rfl, _, _, _, _, false, rfl, .ty _, dp_ty (.str x), kit_ty (a := "str") (by decide +kernel), false, rfl, other fun _ z => by cases z⟩
    | lst h1 h2 => exact ⟨_, rfl, _, _, _, _, false, rfl, .ty _, dp_ty (.lst h1 h2), kit_ty (a := "list") (by decide +kernel), false, rfl, other fun _ z => by cases z⟩
    | tup h1 h2 =>
      rename_i a xs ds
      refine ⟨_, rfl, _, _, _, _, true, rfl, .ty _, dp_ty (.tup h1 h2), kit_ty (a := "tuple") (by decide +kernel), true, rfl, ?_⟩
      refine ⟨_, rfl, a, xs, rfl, .inr h1, _, _, rfl, rfl, _, rfl, ifn (fun c => ?_) (fun c => ?_)⟩
      · refine fin _ (Same.refl H) fun ⟨ds', e, _, _, _, _, _, e2, _⟩ => c ?_
        cases e
        rw [e2] at h2
        rw [DpAll.len h2]
        rfl
      have xl := DpAll.len h2
      obtain ⟨x0, x1, x2, x3, rfl⟩ := four c
      obtain ⟨word, es, rfl⟩ := ho _ rfl xl.symm
      obtain ⟨_, _, z, hx0, h2⟩ := DpAll.one h2
      cases z
      obtain ⟨e1, es, rfl, hx1, h2⟩ := DpAll.one h2
      obtain ⟨e2, es, rfl, hx2, h2⟩ := DpAll.one h2
      obtain ⟨e3, es, rfl, hx3, h2⟩ := DpAll.one h2
      obtain rfl := DpAll.zero h2
      cases hx0
      clear xl c
      refine ⟨_, rfl, a, _, _, _, rfl, rfl, h1, at_of (j := 0) rfl rfl, rfl, _, rfl, ifn (fun c => ?_) (fun c => ?_)⟩
      · refine fin _ (Same.refl H) fun ⟨ds', e, _⟩ => c ?_
        cases e
        rfl
      cases c
      refine ⟨_, rfl, _, rfl, a, _, rfl, h1, ?_, fun q hq => ?_⟩
      · exact fun z => absurd (show (1 : Nat) = 0 from z.1) (by decide)
      have s1 : Same H (upd H q (.tup (cutV [V.str "doubled", x1, x2, x3] (some 1) none))) := up hq
      have s1' : Same H (upd H q (.tup [x1, x2, x3])) := up hq
      refine ⟨q, _, rfl, SqT.of upd_same, rfl, _, _, rfl, _, _, rfl, _, _, rfl, rfl, ?_⟩
      refine st_eq [some (.ref a), some u, some x1, some x2, some x3, none] rfl ?_
      obtain ⟨G, hG⟩ : ∃ G, G = upd H q (.tup [x1, x2, x3]) := ⟨_, rfl⟩
      rw [← hG] at s1'
      refine hp_eq G hG.symm ?_
      clear s1 hG hq q
      refine ⟨_, rfl, x1, e1, _, rfl, Dp.same s1' hx1, _, rfl, iteB (fun c => ?_) (fun c => ?_)⟩
      · refine fin _ s1' fun ⟨ds', e, b, c', n, x, y, e', _, z1, z2, _⟩ => ?_
        cases e
        cases e'
        exact inR_no c ⟨by omega, z2⟩
      obtain ⟨b, rfl, b1, b2⟩ := inR_int c
      cases hx1
      refine ⟨_, rfl, _, _, rfl, rfl, _, rfl, ifd (fun c1 => ?_) (fun c1 => ?_)⟩
      · have c1 : b < 2 := c1
        refine fin _ s1' fun ⟨ds', e, b, c', n, x, y, e', _, h1, h2, _⟩ => ?_
        cases e
        cases e'
        omega
      have c1 : ¬ b < 2 := c1
      refine ⟨_, rfl, x2, e2, _, rfl, Dp.same s1' hx2, _, rfl, iteB (fun c => ?_) (fun c => ?_)⟩
      · refine fin _ s1' fun ⟨ds', e, b, c', n, x, y, e', _, h1, h2, h3, h4, _⟩ => ?_
        cases e
        cases e'
        exact inR_no c ⟨h3, h4⟩
      obtain ⟨c', rfl, b3, b4⟩ := inR_int c
      cases hx2
      refine ⟨_, rfl, _, _, rfl, rfl, ⟨by decide, by decide, by decide⟩, _, _, rfl, rfl, x3, e3, _, rfl, Dp.same s1' hx3, _, rfl, iteB (fun c => ?_) (fun c => ?_)⟩
      · refine fin _ s1' fun ⟨ds', e, b, c', n, x, y, e', _, h1, h2, h3, h4, h5, h6, _⟩ => ?_
        cases e
        cases e'
        exact inR_no c ⟨h5, h6⟩
      obtain ⟨n, rfl, b5, b6⟩ := inR_int c
      cases hx3
      have otherE : (∀ ds, e ≠ .tuple ds) → Q (.bl false) G := fun h => fin _ s1' fun ⟨ds, _, _, _, _, _, _, _, e, _⟩ => h _ e
      cases he with
      | int i => exact ⟨_, rfl, _, _, _, _, false, rfl, .ty _, dp_ty (.int i), kit_ty (a := "int") (by decide +kernel), false, rfl, otherE fun _ z => by cases z⟩
      | bl i => exact ⟨_, rfl, _, _, _, _, false, rfl, .ty _, dp_ty (.bl i), kit_ty (a := "bool") (by decide +kernel), false, rfl, otherE fun _ z => by cases z⟩
      | non => exact ⟨_, rfl, _, _, _, _, false, rfl, .ty _, dp_ty .non, kit_ty (a := "NoneType") (by decide +kernel), false, rfl, otherE fun _ z => by cases z⟩
      | str x => exact ⟨_, rfl, _, _, _, _, false, rfl, .ty _, dp_ty (.str x), kit_ty (a := "str") (by decide +kernel), false, rfl, otherE fun _ z => by cases z⟩
      | lst g1 g2 => exact ⟨_, rfl, _, _, _, _, false, rfl, .ty _, dp_ty (.lst (sqL_same s1' g1) (DpAll.same s1' g2)), kit_ty (a := "list") (by decide +kernel), false, rfl, otherE fun _ z => by cases z⟩
      | tup g1 g2 =>
        rename_i p ys es
        have g1 := sqT_same s1' g1
        have g2 := DpAll.same s1' g2
        refine ⟨_, rfl, _, _, _, _, true, rfl, .ty _, dp_ty (.tup g1 g2), kit_ty (a := "tuple") (by decide +kernel), true, rfl, ?_⟩
        refine ⟨_, rfl, p, ys, rfl, .inr g1, _, _, rfl, rfl, _, rfl, ifn (fun c => ?_) (fun c => ?_)⟩
        · refine fin _ s1' fun ⟨ds', _, _, _, _, _, _, _, e2, _⟩ => c ?_
          cases e2
          rw [DpAll.len g2]
          rfl
        obtain ⟨y0, y1, rfl⟩ := two c
        obtain ⟨u0, es, rfl, hu0, g2⟩ := DpAll.one g2
        obtain ⟨u1, es, rfl, hu1, g2⟩ := DpAll.one g2
        obtain rfl := DpAll.zero g2
        clear c g2 ho
        refine ⟨_, rfl, p, rfl, ⟨_, g1⟩, fun D hD => ?_⟩
        refine lc_tup (K := K) (a := p) (xs := [y0, y1]) (Pv := fun j H' => Same G H' ∧ H' D = some (.lst ((([u0, u1].take j).map (inR 0 (10 ^ 64))).map V.bl))) ⟨up hD, upd_same⟩ (fun j H' _ h => sqT_same h.1 g1) ?_ ?_
        · rintro j v H2 hj ⟨hs, hd⟩
          obtain ⟨t, ht, tb⟩ : ∃ t, [u0, u1][j]? = some t ∧ Dp K G v t := by
            match j, hj with
            | 0, h => cases h; exact ⟨_, rfl, hu0⟩
            | 1, h => cases h; exact ⟨_, rfl, hu1⟩
          refine ⟨rfl, _, rfl, _, _, rfl, rfl, ⟨by decide, by decide, by decide⟩, v, t, _, rfl, Dp.same hs tb, _, hd, ?_, fun q o e => ?_, ?_⟩
          · rw [List.length_map, List.length_map, List.length_take, sizeLine_eq]
            show min j 2 < _
            omega
          · rw [upd_ne (ne_of_none e hD)]
            exact hs _ _ e
          · rw [upd_same, List.take_succ, ht, List.map_append, List.map_append]
            rfl
        rintro H2 ⟨s2, hd2⟩
        have s2' : Same H H2 := fun q o e => s2 _ _ (s1' _ _ e)
        refine ⟨D, [u0, u1].map (inR 0 (10 ^ 64)), rfl, SqL.of hd2, _, rfl, iteB (fun c => ?_) (fun c => ?_)⟩
        · refine fin _ s2' fun ⟨ds', _, _, _, _, x, y, _, e2, _, _, _, _, _, _, x0, xy, _⟩ => ?_
          cases e2
          obtain ⟨sx, sy⟩ := sm x y rfl
          have z : ([PyData.int x, PyData.int y].map (inR 0 (10 ^ 64))).all id = true := by
            have e1 : inR 0 (10 ^ 64) (.int x) = true := decide_eq_true ⟨x0, Int.le_of_lt (Int.lt_trans sx (by decide))⟩
            have e2 : inR 0 (10 ^ 64) (.int y) = true := decide_eq_true ⟨by omega, Int.le_of_lt (Int.lt_trans sy (by decide))⟩
            simp only [List.map_cons, List.map_nil, List.all_cons, List.all_nil, e1, e2, id]
            rfl
          rw [z] at c
          cases c
        simp only [List.map_cons, List.map_nil, List.all_cons, List.all_nil, Bool.and_eq_true, id] at c
        obtain ⟨x, rfl, x0, _⟩ := inR_int c.1
        obtain ⟨y, rfl, y0, _⟩ := inR_int c.2.1
        cases hu0
        cases hu1
        have g3 := sqT_same s2 g1
        refine ⟨_, rfl, p, _, _, _, rfl, rfl, g3, at_of (j := 0) rfl rfl, _, rfl, p, _, _, _, rfl, rfl, g3, at_of (j := 1) rfl rfl, _, _, rfl, rfl, _, rfl, ifd (fun c4 => ?_) (fun c4 => ?_)⟩
        · have c4 : x ≥ y := c4
          refine fin _ s2' fun ⟨ds', _, _, _, _, x, y, _, e2, _, _, _, _, _, _, x0, xy, _⟩ => ?_
          cases e2
          omega
        have c4 : ¬ x ≥ y := c4
        refine ⟨_, rfl, p, rfl, ⟨_, g3⟩, fun D hD => ?_⟩
        refine lc_tup (K := K) (a := p) (xs := [.int x, .int y]) (Pv := fun j H' => Same H2 H' ∧ H' D = some (.lst ((([x, y].take j).map fun t => decide (t - figF b t - c' = n)).map V.bl))) ⟨up hD, upd_same⟩ (fun j H' _ h => sqT_same h.1 g3) ?_ ?_
        · rintro j v H3 hj ⟨hs, hd⟩
          obtain ⟨t, rfl, ht, tb⟩ : ∃ t : Int, v = .int t ∧ [x, y][j]? = some t ∧ 0 ≤ t := by
            match j, hj with
            | 0, h => cases h; exact ⟨x, rfl, rfl, x0⟩
            | 1, h => cases h; exact ⟨y, rfl, rfl, y0⟩
          refine ⟨rfl, _, rfl, ?_⟩
          refine ⟨_, rfl, _, rfl, t, b, rfl, by omega, b2, tb, _, _, rfl, rfl, _, rfl, _, _, rfl, rfl, _, rfl, _, _, rfl, rfl, _, hd, ?_, fun q o e => ?_, ?_⟩
          · rw [List.length_map, List.length_map, List.length_take, sizeLine_eq]
            show min j 2 < _
            omega
          · rw [upd_ne (ne_of_none e hD)]
            exact hs _ _ e
          · rw [upd_same, List.take_succ, ht, List.map_append, List.map_append]
            rfl
        rintro H3 ⟨hs, hd⟩
        refine ⟨D, [x, y].map fun t => decide (t - figF b t - c' = n), rfl, SqL.of hd, k _ _ ⟨fun z => ?_, fun ⟨ds', e0, b', c'', n', x', y', e1, e2, _, _, _, _, _, _, _, _, e3, e4⟩ => ?_⟩ (fun q o e => hs _ _ (s2' _ _ e))⟩
        · simp only [List.map_cons, List.map_nil, List.all_cons, List.all_nil, Bool.and_eq_true, decide_eq_true_eq, id] at z
          exact ⟨_, rfl, b, c', n, x, y, rfl, rfl, by omega, b2, b3, b4, b5, b6, x0, by omega, by omega, by omega⟩
        · cases e0
          cases e1
          cases e2
          simp only [List.map_cons, List.map_nil, List.all_cons, List.all_nil, Bool.and_eq_true, decide_eq_true_eq, id]
          exact ⟨by omega, by omega, trivial⟩
end
/-! ### a power of the base that leaves a length -/
def spPower : Sp := fun vs H Q _ => ∃ (p : Addr) (b c : Int), vs = [.ref p, .int b, .int c] ∧ PurseAt H p ∧ 2 ≤ b ∧ b ≤ 256 ∧ 0 ≤ c ∧ c ≤ 1000 ∧
  ∀ (t : Addr) (H' : Hp) (m : Nat), Drew p H H' → H' t = some (.tup [.int (b ^ m), .int m]) → 1 ≤ m → b ^ m ≤ 10 ^ 60 → 0 ≤ b ^ m - 1 - m - c → Q (.ref t) H'
theorem pow_base {b : Int} (hb : 2 ≤ b) : ∀ m : Nat, (2 : Int) ^ m ≤ b ^ m
  | 0 => by rw [Int.pow_zero, Int.pow_zero]; exact Int.le_refl _
  | m + 1 => by
    rw [Int.pow_succ, Int.pow_succ]
    exact Int.mul_le_mul (pow_base hb m) hb (by decide) (Int.le_of_lt (Int.lt_of_lt_of_le (by decide) (pow_pos (by omega) m)))
section
variable {P : Program} {w : World} {K : PySem.W.Frag} {mg : Str → Option Value} {base : Heap}
theorem ok_L_power (T : Tx w K mg) : Prom P w K mg base CX0 2 "_law_power" s_L_power ["_law_pool_here", "_law_b", "_law_c"] spPower := by
  refine Prom.of T.d_L_power sc_L_power (fun vs H Q E h => ?_) (fun _ _ _ _ _ _ us hl => match us, hl with | [_, _, _], _ => rfl) (fun f cdv A outer s H vs Q E hr h => ?_)
  · obtain ⟨p, b, c, rfl, _⟩ := h
    rfl
  · obtain ⟨p, b, c, rfl, hp, b0, b1, c0, c1, k⟩ := h
    refine ⟨_, (pss_cons (ps_par (i := 3) (j := 4) (by rfl) sc_L_power.nd rfl rfl (by decide) rfl rfl (pa_cons (pv 1) (pa_cons pe_int pa_nil)) (by rfl))
      (pss_cons (ps_for PassesOwn.never (by rfl) (pi_range1 (by rfl) T.b_range (pa_cons (pe_callP (ok_L_draw T) (hr.mono (by decide)) (by rfl) pass0 (pa_cons (pv 0) (pa_cons pe_int pa_nil))) pa_nil)) (pg_name (i := 5) sc_L_power.nd rfl (Or.inl rfl)) (pss_one (ps_if (pt_cmp (pc_le (pe_op op_mul (pv 3) (pv 1)) (pe_op op_pow pe_int pe_int))) (pss_one (ps_par (i := 3) (j := 4) (by rfl) sc_L_power.nd rfl rfl (by decide) rfl rfl (pa_cons (pe_op op_mul (pv 3) (pv 1)) (pa_cons (pe_op op_add (pv 4) pe_int) pa_nil)) (by rfl))) pss_nil)))
      (pss_cons (ps_while PassesOwn.never (pt_cmp (pc_lt (pe_op op_sub (pe_op op_sub (pe_op op_sub (pv 3) pe_int) (pv 4)) (pv 2)) pe_int)) (pss_one (ps_par (i := 3) (j := 4) (by rfl) sc_L_power.nd rfl rfl (by decide) rfl rfl (pa_cons (pe_op op_mul (pv 3) (pv 1)) (pa_cons (pe_op op_add (pv 4) pe_int) pa_nil)) (by rfl))))
      (pss_one (ps_ret (pe_tup (pa_cons (pv 3) (pa_cons (pv 4) pa_nil)))))))), ?_⟩
    refine ⟨_, rfl, _, _, rfl, ?_⟩
    refine ⟨_, rfl, p, _, rfl, hp, by decide, by decide, fun r H1 r0 r1 d1 => ?_⟩
    refine ⟨_, rfl, by omega, by omega, for_range (lo := 0) (fun i σ H' => H' = H1 ∧ ∃ (m : Nat) (v : Option V), 1 ≤ m ∧ b ^ m ≤ 10 ^ 60 ∧ σ = [some (.ref p), some (.int b), some (.int c), some (.int (b ^ m)), some (.int m), v]) ⟨rfl, 1, none, by decide, by rw [pow_one]; exact Int.le_trans b1 (by decide), by rw [pow_one]; rfl⟩ ?_ ?_⟩
    · rintro i σ H' hi ⟨rfl, m, v, m0, m1, rfl⟩
      refine ⟨_, rfl, _, rfl, _, _, rfl, rfl, .inr ⟨by omega, by omega⟩, _, _, rfl, rfl, ⟨by decide, by decide, by decide⟩, _, _, rfl, rfl, _, rfl, ifd (fun z => ?_) (fun z => ?_)⟩
      · have z : b ^ m * b ≤ 10 ^ 60 := z
        refine ⟨_, rfl, _, rfl, _, _, rfl, rfl, .inr ⟨by omega, by omega⟩, _, rfl, _, _, rfl, rfl, _, _, rfl, rfl, m + 1, some (.int (0 + (i : Int))), by omega, by rw [Int.pow_succ]; exact z, ?_⟩
        rw [Int.pow_succ]
        rfl
      · exact ⟨rfl, m, _, m0, m1, rfl⟩
    · rintro σ H' ⟨rfl, m, v, m0, m1, rfl⟩
      refine ⟨fun n σ H2 => H2 = H' ∧ ∃ (m : Nat), σ = [some (.ref p), some (.int b), some (.int c), some (.int (b ^ m)), some (.int m), v] ∧ 1 ≤ m ∧ b ^ m ≤ 10 ^ 60 ∧ n = (1300 - b ^ m).toNat, ⟨_, rfl, m, rfl, m0, m1, rfl⟩, ?_⟩
      clear m0 m1 m
      rintro n σ H2 ⟨rfl, m, rfl, m0, m1, rfl⟩
      refine ⟨_, rfl, _, _, rfl, rfl, _, rfl, _, _, rfl, rfl, _, rfl, _, _, rfl, rfl, _, _, rfl, rfl, _, rfl, ifd (fun z => ?_) (fun z => ?_)⟩
      · have z : b ^ m - 1 - m - c < 0 := z
        have m2 : m < 200 := by
          refine Nat.lt_of_not_le fun h => ?_
          have h1 : b ^ 200 ≤ b ^ m := pow_mono (by omega) h
          have h2 : (2 : Int) ^ 200 ≤ b ^ 200 := pow_base b0 200
          have h3 : (10 : Int) ^ 60 < 2 ^ 200 := by decide
          omega
        have z2 : b ^ m ≤ 1200 := by omega
        have z3 := pow_lt b0 m
        have z4 : b ^ m * b ≤ 1200 * 256 := Int.mul_le_mul z2 b1 (by omega) (by decide)
        refine ⟨_, fun σ' H' h => h, ?_⟩
        refine ⟨_, rfl, _, rfl, _, _, rfl, rfl, .inr ⟨by omega, by omega⟩, _, rfl, _, _, rfl, rfl, _, _, rfl, ?_⟩
        refine ⟨_, ?_, rfl, m + 1, ?_, by omega, ?_, rfl⟩
        · have e : b ^ (m + 1) = b ^ m * b := Int.pow_succ _ _
          rw [e] at z3 ⊢
          omega
        · rw [Int.pow_succ]
          rfl
        · rw [Int.pow_succ]
          exact Int.le_trans z4 (by decide)
      · have z : ¬ b ^ m - 1 - m - c < 0 := z
        refine ⟨_, rfl, _, rfl, (by show 2 ≤ sizeLine; decide), fun t ht => k t _ m (d1.new ht) upd_same m0 m1 (by omega)⟩
end
theorem cut_to {xs : List V} {i : Nat} (h : i ≤ xs.length) : cutV xs none (some (i : Int)) = xs.take i := by
  unfold cutV
  rw [HT.sIx_none, HT.sIx_nat]
  simp [Nat.min_eq_left h]
theorem cut_from {xs : List V} {i : Nat} (h : i ≤ xs.length) : cutV xs (some (i : Int)) none = xs.drop i := by
  unfold cutV
  rw [HT.sIx_none, HT.sIx_nat, Nat.min_eq_left h]
  exact List.take_of_length_le (by rw [List.length_drop]; exact Nat.le_refl _)
set_option pp.maxSteps 900
/-! ### an integer, a text or a tuple with something otherwise -/
def goodW (s : Str) : Bool := !(s == "other") && !(s == "longer") && !(s == "size") && !(s == "payload") && !(s == "missed") && !(s == "stopped")
def BentI (i : Int) (d : PyData) : Prop := ∀ j, d = .int j → j = i + 1 ∨ j = i - 1 ∨ j = i + 10 ∨ j = -i - 1 ∨ j = i * 10
def Bent0 (e d : PyData) : Prop := (∃ i, e = .int i ∧ BentI i d) ∨ (e = .str "doubled" ∧ ∃ s, d = .str s ∧ goodW s = true)
def ElOk (e : V) : Prop := (∃ i : Int, e = .int i ∧ 0 ≤ i ∧ i < 10 ^ 62) ∨ e = .str "doubled"
def dOf : V → PyData
  | .int i => .int i
  | .str s => .str s
  | _ => .none
def spBent0 (K : PySem.W.Frag) : Sp := fun vs H Q _ => ∃ (p : Addr) (v : V), vs = [.ref p, v] ∧ PurseAt H p ∧ ElOk v ∧ ∀ v' d' H', Dp K H' v' d' → Bent0 (dOf v) d' → Drew p H H' → Q v' H'
theorem dp_el {K : PySem.W.Frag} {H : Hp} {v : V} (h : ElOk v) : Dp K H v (dOf v) := by
  rcases h with ⟨i, rfl, _⟩ | rfl
  · exact .int i
  · exact .str _
def signs : Str := " \n0189abdefhilnoptuw-"
theorem bw_len {a : Int} (h0 : 0 ≤ a) (h1 : a < 8) : (cutS "doubled" none (some a)).length ≤ 7 ∧ (cutS "doubled" (some a) none).length ≤ 7 ∧ (cutS "doubled" (some (a + 1)) none).length ≤ 7 := by
  have key : ∀ a : Fin 8, (cutS "doubled" none (some (a.val : Int))).length ≤ 7 ∧ (cutS "doubled" (some (a.val : Int)) none).length ≤ 7 ∧ (cutS "doubled" (some ((a.val : Int) + 1)) none).length ≤ 7 := by decide +kernel
  have k := key ⟨a.toNat, by omega⟩
  have e : ((a.toNat : Nat) : Int) = a := by omega
  simpa only [e] using k
theorem bw_good {a : Int} {c : Nat} (h0 : 0 ≤ a) (h1 : a < 8) (hc : c ∈ signs.cps.toList) :
    goodW (cutS "doubled" none (some a) ++ ⟨#[c]⟩ ++ cutS "doubled" (some a) none) = true ∧ goodW (cutS "doubled" none (some a) ++ cutS "doubled" (some (a + 1)) none) = true ∧ goodW (cutS "doubled" none (some a) ++ ⟨#[c]⟩ ++ cutS "doubled" (some (a + 1)) none) = true := by
  have key : ∀ a : Fin 8, ∀ c ∈ signs.cps.toList, goodW (cutS "doubled" none (some (a.val : Int)) ++ ⟨#[c]⟩ ++ cutS "doubled" (some (a.val : Int)) none) = true ∧ goodW (cutS "doubled" none (some (a.val : Int)) ++ cutS "doubled" (some ((a.val : Int) + 1)) none) = true ∧ goodW (cutS "doubled" none (some (a.val : Int)) ++ ⟨#[c]⟩ ++ cutS "doubled" (some ((a.val : Int) + 1)) none) = true := by decide +kernel
  have k := key ⟨a.toNat, by omega⟩ c hc
  have e : ((a.toNat : Nat) : Int) = a := by omega
  simpa only [e] using k
theorem bw_app {a : Int} {c : Nat} (h0 : 0 ≤ a) (h1 : a < 8) (hc : c ∈ signs.cps.toList) : (cutS "doubled" none (some a) ++ ⟨#[c]⟩).length ≤ 8 := by
  have key : ∀ a : Fin 8, ∀ c ∈ signs.cps.toList, (cutS "doubled" none (some (a.val : Int)) ++ ⟨#[c]⟩).length ≤ 8 := by decide +kernel
  have k := key ⟨a.toNat, by omega⟩ c hc
  have e : ((a.toNat : Nat) : Int) = a := by omega
  simpa only [e] using k
theorem sz {n : Nat} (h : n ≤ 100) : n ≤ sizeLine := Nat.le_trans h (by decide)
section
variable {P : Program} {w : World} {K : PySem.W.Frag} {mg : Str → Option Value} {base : Heap}
theorem bent_none (T : Tx w K mg) : Prom P w K mg base CX0 1 "_law_bent" s_L_bent ["_law_pool_here", "_law_thing"] spNone :=
  Prom.of T.d_L_bent sc_L_bent (fun vs H Q E h => absurd h id) (fun _ _ _ _ _ _ us hl => match us, hl with | [_, _], _ => rfl) (fun f cdv A outer s H vs Q E hr h => absurd h id)
theorem bent_zero (T : Tx w K mg) : Prom P w K mg base CX0 2 "_law_bent" s_L_bent ["_law_pool_here", "_law_thing"] (spBent0 K) := by
  have R := bent_none (P := P) (w := w) (base := base) T
  refine Prom.of T.d_L_bent sc_L_bent (fun vs H Q E h => ?_) (fun _ _ _ _ _ _ us hl => match us, hl with | [_, _], _ => rfl) (fun f cdv A outer s H vs Q E hr h => ?_)
  · obtain ⟨p, v, rfl, _⟩ := h
    rfl
  · obtain ⟨p, v, rfl, hp, he, k⟩ := h
    refine ⟨_, (pss_cons (ps_set (i := 2) sc_L_bent.nd rfl (Or.inl rfl) (pe_callP (ok_L_draw T) (hr.mono (by decide)) (by rfl) pass0 (pa_cons (pv 0) (pa_cons pe_int pa_nil))))
      (pss_cons (ps_if (pt_val (pe_callB call_isi (by rfl) T.b_isinstance (by decide +kernel) (pa_cons (pv 1) (pa_cons (pe_bltn (v := .ty "int") (by rfl) T.b_int (by decide +kernel) rfl) pa_nil)))) (pss_one (ps_ret (pe_ix ix_list (pe_lst (pa_cons (pe_op op_add (pv 1) pe_int) (pa_cons (pe_op op_sub (pv 1) pe_int) (pa_cons (pe_op op_add (pv 1) pe_int) (pa_cons (pe_op op_sub (pe_un un_neg (pv 1)) pe_int) (pa_cons (pe_op op_mul (pv 1) pe_int) (pa_cons (pe_callTy call_str_int (by rfl) T.b_str (by decide +kernel) (pa_cons (pv 1) pa_nil)) (pa_cons (pe_tup (pa_cons (pv 1) pa_nil)) (pa_cons pe_non pa_nil))))))))) (pv 2) (fun _ _ => rfl)))) pss_nil)
      (pss_cons (ps_if (pt_val (pe_callB call_isi (by rfl) T.b_isinstance (by decide +kernel) (pa_cons (pv 1) (pa_cons (pe_bltn (v := .ty "str") (by rfl) T.b_str (by decide +kernel) rfl) pa_nil)))) (pss_cons (ps_par (i := 3) (j := 4) (by rfl) sc_L_bent.nd rfl rfl (by decide) rfl rfl (pa_cons (pe_callP (ok_L_draw T) (hr.mono (by decide)) (by rfl) pass0 (pa_cons (pv 0) (pa_cons (pe_op op_add (pe_callB call_len_str (by rfl) T.b_len (by decide +kernel) (pa_cons (pv 1) pa_nil)) pe_int) pa_nil))) (pa_cons (pe_ix ix_str pe_str (pe_callP (ok_L_draw T) (hr.mono (by decide)) (by rfl) pass0 (pa_cons (pv 0) (pa_cons pe_int pa_nil))) (fun _ _ => rfl)) pa_nil)) (by rfl))
      (pss_cons (ps_if (pt_cmp (pc_lt (pv 2) pe_int)) (pss_one (ps_ret (pe_ix ix_list (pe_lst (pa_cons (pe_op op_add_str (pe_op op_add_str (pe_slice sl_str (pv 1) po_none (po_some (pv 3))) (pv 4)) (pe_slice sl_str (pv 1) (po_some (pv 3)) po_none)) (pa_cons (pe_op op_add_str (pe_slice sl_str (pv 1) po_none (po_some (pv 3))) (pe_slice sl_str (pv 1) (po_some (pe_op op_add (pv 3) pe_int)) po_none)) pa_nil))) (pe_op op_mod (pe_callTy call_int1 (by rfl) T.b_int (by decide +kernel) (pa_cons (pv 2) pa_nil)) pe_int) (fun _ _ => rfl)))) pss_nil)
      (pss_one (ps_ret (pe_ifExp (pt_cmp (pc_eqI (pv 2) pe_int)) (pe_op op_add_str (pe_op op_add_str (pe_slice sl_str (pv 1) po_none (po_some (pv 3))) (pv 4)) (pe_slice sl_str (pv 1) (po_some (pe_op op_add (pv 3) pe_int)) po_none)) (pe_op op_add_str (pe_op op_add_str (pv 1) pe_str) (pe_ix ix_list (pe_split (pv 1) pe_str) (pe_un un_neg pe_int) (fun _ _ => rfl)))))))) pss_nil)
      (pss_cons (ps_if (PW.pt (pw_or (pt_cmp (pc_eqI (pv 2) pe_int)) (pw_or (pt_not (pt_val (pe_callB call_isi (by rfl) T.b_isinstance (by decide +kernel) (pa_cons (pv 1) (pa_cons (pe_bltn (v := .ty "tuple") (by rfl) T.b_tuple (by decide +kernel) rfl) pa_nil))))) (pw_or1 (pt_cmpR (op_eqD hr.units) (pv 1) (pe_tup pa_nil) (nomark _)))))) (pss_one (ps_ret (pe_ix ix_list (pe_lst (pa_cons pe_non (pa_cons (pe_tup (pa_cons pe_int pa_nil)) (pa_cons (pe_lst pa_nil) (pa_cons pe_int pa_nil))))) (pe_callP (ok_L_draw T) (hr.mono (by decide)) (by rfl) pass0 (pa_cons (pv 0) (pa_cons pe_int pa_nil))) (fun _ _ => rfl)))) pss_nil)
      (pss_cons (ps_set (i := 3) sc_L_bent.nd rfl (Or.inl rfl) (pe_callP (ok_L_draw T) (hr.mono (by decide)) (by rfl) pass0 (pa_cons (pv 0) (pa_cons (pe_callB call_len_seq (by rfl) T.b_len (by decide +kernel) (pa_cons (pv 1) pa_nil)) pa_nil))))
      (pss_cons (ps_if (pt_cmp (pc_eqI (pv 2) pe_int)) (pss_one (ps_ret (pe_op op_catA (pe_slice sl_tupA (pv 1) po_none (po_some (pv 3))) (pe_slice sl_tupA (pv 1) (po_some (pe_op op_add (pv 3) pe_int)) po_none)))) pss_nil)
      (pss_cons (ps_if (pt_cmp (pc_eqI (pv 2) pe_int)) (pss_one (ps_ret (pe_op op_catA (pe_op op_catA (pe_slice sl_tupA (pv 1) po_none (po_some (pv 3))) (pe_slice sl_tupA (pv 1) (po_some (pv 3)) (po_some (pe_op op_add (pv 3) pe_int)))) (pe_slice sl_tupA (pv 1) (po_some (pv 3)) po_none)))) pss_nil)
      (pss_one (ps_ret (pe_op op_catA (pe_op op_catA (pe_slice sl_tupA (pv 1) po_none (po_some (pv 3))) (pe_tup (pa_cons (pe_callP R (hr.mono (by decide)) (by rfl) pass0 (pa_cons (pv 0) (pa_cons (pe_ix ix_tup (pv 1) (pv 3) (fun _ _ => rfl)) pa_nil))) pa_nil))) (pe_slice sl_tupA (pv 1) (po_some (pe_op op_add (pv 3) pe_int)) po_none))))))))))), ?_⟩
    refine ⟨_, rfl, p, _, rfl, hp, by decide, by decide, fun r H1 r0 r1 d1 => ?_⟩
    rcases he with ⟨i, rfl, i0, i1⟩ | rfl
    · refine ⟨_, rfl, _, _, _, _, true, rfl, .ty _, .base (.int _), kit_ty (by decide +kernel), true, rfl, iteT ?_⟩
      refine ⟨_, rfl, _, _, rfl, rfl, _, rfl, _, _, rfl, rfl, _, rfl, _, _, rfl, rfl, _, rfl, _, rfl, _, _, rfl, rfl, _, rfl, _, _, rfl, rfl, .inr ⟨by decide, by decide⟩, _, rfl, i, rfl, log2_small i0 (Int.lt_trans i1 (by decide)), _, rfl, (by show 1 ≤ sizeLine; decide), fun q hq => ⟨(by show 8 ≤ sizeLine; decide), fun l hl => ?_⟩⟩
      have d2 := d1.new (o := .tup [.int i]) hq
      have d3 := d2.new (o := .lst [.int (i + 1), .int (i - 1), .int (i + 10), .int (-i - 1), .int (i * 10), .str (toString i), .ref q, .non]) hl
      have g : upd (upd H1 q (.tup [.int i])) l (.lst [.int (i + 1), .int (i - 1), .int (i + 10), .int (-i - 1), .int (i * 10), .str (toString i), .ref q, .non]) q = some (.tup [.int i]) := up hl _ _ upd_same
      have r8 : r = 0 ∨ r = 1 ∨ r = 2 ∨ r = 3 ∨ r = 4 ∨ r = 5 ∨ r = 6 ∨ r = 7 := by omega
      rcases r8 with rfl | rfl | rfl | rfl | rfl | rfl | rfl | rfl
      · exact ⟨_, rfl, l, _, _, _, rfl, rfl, SqL.of upd_same, at_of (j := 0) rfl rfl, k _ _ _ (.int _) (.inl ⟨i, rfl, fun j e => by cases e; omega⟩) d3⟩
      · exact ⟨_, rfl, l, _, _, _, rfl, rfl, SqL.of upd_same, at_of (j := 1) rfl rfl, k _ _ _ (.int _) (.inl ⟨i, rfl, fun j e => by cases e; omega⟩) d3⟩
      · exact ⟨_, rfl, l, _, _, _, rfl, rfl, SqL.of upd_same, at_of (j := 2) rfl rfl, k _ _ _ (.int _) (.inl ⟨i, rfl, fun j e => by cases e; omega⟩) d3⟩
      · exact ⟨_, rfl, l, _, _, _, rfl, rfl, SqL.of upd_same, at_of (j := 3) rfl rfl, k _ _ _ (.int _) (.inl ⟨i, rfl, fun j e => by cases e; omega⟩) d3⟩
      · exact ⟨_, rfl, l, _, _, _, rfl, rfl, SqL.of upd_same, at_of (j := 4) rfl rfl, k _ _ _ (.int _) (.inl ⟨i, rfl, fun j e => by cases e; omega⟩) d3⟩
      · exact ⟨_, rfl, l, _, _, _, rfl, rfl, SqL.of upd_same, at_of (j := 5) rfl rfl, k _ _ _ (.str _) (.inl ⟨i, rfl, fun j e => by cases e⟩) d3⟩
      · exact ⟨_, rfl, l, _, _, _, rfl, rfl, SqL.of upd_same, at_of (j := 6) rfl rfl, k _ _ _ (.tup (SqT.of g) (.cons (.int i) .nil)) (.inl ⟨i, rfl, fun j e => by cases e⟩) d3⟩
      · exact ⟨_, rfl, l, _, _, _, rfl, rfl, SqL.of upd_same, at_of (j := 7) rfl rfl, k _ _ _ .non (.inl ⟨i, rfl, fun j e => by cases e⟩) d3⟩
    · refine ⟨_, rfl, _, _, _, _, false, rfl, .ty _, .base (.str _), kit_ty (a := "str") (b := "int") (by decide +kernel), false, rfl, iteF ?_⟩
      refine ⟨_, rfl, _, _, _, _, true, rfl, .ty _, .base (.str _), kit_ty (a := "str") (b := "str") (by decide +kernel), true, rfl, iteT ?_⟩
      have e8 : ((Str.length "doubled" : Nat) : Int) + 1 = 8 := by decide
      refine ⟨_, rfl, _, rfl, _, rfl, sz (by decide), _, _, rfl, rfl, p, _, rfl, d1.at_, by decide, by decide, fun a H2 a0 a1 d2 => ?_⟩
      have a1 : a < 8 := by
        have a1 : a < ((Str.length "doubled" : Nat) : Int) + 1 := a1
        omega
      have d2 := d1.trans d2
      refine ⟨_, rfl, p, _, rfl, d2.at_, by decide, by decide, fun j H3 j0 j1 d3 => ?_⟩
      have d3 := d2.trans d3
      have e21 : signs.cps.toList.length = 21 := by decide
      obtain ⟨c, ec⟩ : ∃ c, signs.cps.toList[j.toNat]? = some c := ⟨_, List.getElem?_eq_getElem (by omega)⟩
      have hc : c ∈ signs.cps.toList := List.mem_of_getElem? ec
      obtain ⟨l1, l2, l3⟩ := bw_len a0 a1
      have l4 := bw_app a0 a1 hc
      obtain ⟨g1, g2, g3⟩ := bw_good a0 a1 hc
      have eat : atI signs.cps.toList j = some c := by
        have z := atI_nat ec
        rwa [show ((j.toNat : Nat) : Int) = j by omega] at z
      refine ⟨_, _, c, rfl, rfl, sz (by decide), eat, _, _, rfl, ?_⟩
      refine st_eq [some (.ref p), some (.str "doubled"), some (.int r), some (.int a), some (.str ⟨#[c]⟩)] rfl ?_
      have fin : ∀ s H', goodW s = true → Drew p H H' → Q (.str s) H' := fun s H' g d => k _ _ _ (.str s) (.inr ⟨rfl, s, rfl, g⟩) d
      refine ⟨_, rfl, _, _, rfl, rfl, _, rfl, ifd (fun c6 => ?_) (fun c6 => ?_)⟩
      · refine ⟨_, rfl, _, rfl, _, rfl, _, rfl, sz (by decide), _, rfl, _, _, rfl, rfl, ?_, ?_⟩
        · exact Nat.le_trans (Nat.add_le_add l1 (show 1 ≤ 1 from Nat.le_refl 1)) (sz (by decide))
        have L : ∀ {m n : Nat}, m ≤ 8 → n ≤ 8 → m + n ≤ sizeLine := fun {m n} h1 h2 => Nat.le_trans (Nat.add_le_add h1 h2) (sz (by decide))
        refine ⟨_, rfl, _, rfl, _, rfl, _, rfl, sz (by decide), _, _, rfl, rfl, L l4 (Nat.le_trans l2 (by decide)), ?_⟩
        refine ⟨_, rfl, _, rfl, _, rfl, _, rfl, sz (by decide), _, rfl, _, rfl, _, _, rfl, rfl, _, rfl, _, rfl, sz (by decide), _, _, rfl, rfl, L (Nat.le_trans l1 (by decide)) (Nat.le_trans l3 (by decide)), ?_⟩
        refine ⟨(by show 2 ≤ sizeLine; decide), fun l hl => ?_⟩
        have d4 := d3.new (o := .lst [.str (cutS "doubled" none (some a) ++ ⟨#[c]⟩ ++ cutS "doubled" (some a) none), .str (cutS "doubled" none (some a) ++ cutS "doubled" (some (a + 1)) none)]) hl
        refine ⟨_, rfl, .inl ⟨_, rfl, _, _, rfl, rfl, (by show (0 : Int) < 2; decide), ?_⟩⟩
        have r2 : r % 2 = 0 ∨ r % 2 = 1 := by omega
        rcases r2 with e | e
        · exact ⟨l, _, _, _, rfl, rfl, SqL.of upd_same, at_of (j := 0) e rfl, fin _ _ g1 d4⟩
        · exact ⟨l, _, _, _, rfl, rfl, SqL.of upd_same, at_of (j := 1) e rfl, fin _ _ g2 d4⟩
      · have L : ∀ {m n : Nat}, m ≤ 8 → n ≤ 8 → m + n ≤ sizeLine := fun {m n} h1 h2 => Nat.le_trans (Nat.add_le_add h1 h2) (sz (by decide))
        refine ⟨_, rfl, _, _, rfl, rfl, _, rfl, ifd (fun c7 => ?_) (fun c7 => ?_)⟩
        · refine ⟨_, rfl, _, rfl, _, rfl, _, rfl, sz (by decide), _, rfl, _, _, rfl, rfl, ?_, ?_⟩
          · exact L (Nat.le_trans l1 (by decide)) (show 1 ≤ 8 by decide)
          refine ⟨_, rfl, _, rfl, _, _, rfl, rfl, _, rfl, _, rfl, sz (by decide), _, _, rfl, rfl, L l4 (Nat.le_trans l3 (by decide)), ?_⟩
          exact fin _ _ g3 d3
        · refine ⟨_, rfl, _, _, rfl, rfl, sz (by decide), ?_⟩
          refine ⟨_, rfl, ⟨_, rfl⟩, _, _, rfl, rfl, by decide +kernel, sz (by decide), fun l hl => ?_⟩
          have e1 : Txt.split "doubled" "\n" = [("doubled" : Str)] := by decide +kernel
          rw [e1]
          refine ⟨_, rfl, l, _, _, _, rfl, rfl, SqL.of upd_same, rfl, _, _, rfl, rfl, sz (by decide), ?_⟩
          exact fin _ _ (by decide +kernel) (d3.new hl)
end
/-! ### a tuple with something otherwise -/
theorem gn {i : Nat} {x : V} {σ : L2.St} {H : Hp} {k : L2.St → Hp → Prop} (h : k (σ.set i (some x)) H) : gName i x σ H k := h
def BentT (ds : List PyData) (d : PyData) : Prop := d = .none ∨ d = .tuple [.int 0] ∨ d = .list [] ∨ d = .int 7 ∨ ∃ (i : Nat) (e : PyData), ds[i]? = some e ∧
  (d = .tuple (ds.take i ++ ds.drop (i + 1)) ∨ d = .tuple (ds.take i ++ (e :: ds.drop i)) ∨ ∃ e', d = .tuple (ds.take i ++ (e' :: ds.drop (i + 1))) ∧ Bent0 e e')
def spBent (K : PySem.W.Frag) : Sp := fun vs H Q _ => ∃ (p a : Addr) (xs : List V), vs = [.ref p, .ref a] ∧ PurseAt H p ∧ SqT K H a xs ∧ (∀ x ∈ xs, ElOk x) ∧ 2 ≤ xs.length ∧ xs.length ≤ 4 ∧ SeqAt.shaped (.tuple (xs.map dOf)) = true ∧
  ∀ v' d' H', Dp K H' v' d' → BentT (xs.map dOf) d' → Drew p H H' → Q v' H'
theorem dp_els {K : PySem.W.Frag} {H : Hp} : ∀ {xs : List V}, (∀ x ∈ xs, ElOk x) → DpAll K H xs (xs.map dOf)
  | [], _ => .nil
  | x :: xs, h => .cons (dp_el (h x (List.mem_cons_self ..))) (dp_els fun y hy => h y (List.mem_cons_of_mem _ hy))
theorem DpAll.append {K : PySem.W.Frag} {H : Hp} : ∀ {xs ys : List V} {ds es : List PyData}, DpAll K H xs ds → DpAll K H ys es → DpAll K H (xs ++ ys) (ds ++ es)
  | _, _, _, _, .nil, h => h
  | _, _, _, _, .cons a b, h => .cons a (DpAll.append b h)
theorem drew_sqT {K : PySem.W.Frag} {p a : Addr} {H H' : Hp} {xs : List V} (hp : PurseAt H p) (d : Drew p H H') (h : SqT K H a xs) : SqT K H' a xs := by
  rcases h with (h | ⟨o, h⟩) | h
  · exact .inl (.inl (d.keep hp h (fun _ z => by cases z)))
  · exact .inl (.inr ⟨o, d.keep hp h (fun _ z => by cases z)⟩)
  · exact .inr h
/-- a slice, whether it is new or the tuple itself -/
theorem slA_any {K : PySem.W.Frag} {a : Addr} {H : Hp} {xs : List V} {lo hi : Option Int} {Q : VK} (h : SqT K H a xs) (k : ∀ b H', Same H H' → SqT K H' b (cutV xs lo hi) → Q (.ref b) H') : rSlA K (.ref a) lo hi H Q := by
  refine ⟨a, xs, rfl, h, fun z => k a H (Same.refl H) ?_, fun _ q hq => k q _ (up hq) (SqT.of upd_same)⟩
  have e : cutV xs lo hi = xs := by
    unfold cutV
    rw [z.1, z.2]
    simp
  rw [e]
  exact h
theorem slA_rest {K : PySem.W.Frag} {a : Addr} {σ : L2.St} {H : Hp} {xs : List V} {lo : Option Int} {Q : VK} (h : SqT K H a xs) (k : ∀ b H', Same H H' → SqT K H' b (cutV xs lo none) → Q (.ref b) H') : tNoPart σ H fun u H3 => rSlA K (.ref a) lo u H3 Q := slA_any h k
theorem catA_any {K : PySem.W.Frag} {a b : Addr} {H : Hp} {xs ys : List V} {Q : VK} (h : SqT K H a xs) (g : SqT K H b ys) (hl : xs.length + ys.length ≤ sizeLine) (k : ∀ c H', Same H H' → SqT K H' c (xs ++ ys) → Q (.ref c) H') : rCatA K (.ref a) (.ref b) H Q := by
  refine ⟨a, b, xs, ys, rfl, rfl, h, g, hl, fun z => k b H (Same.refl H) ?_, fun _ z => k a H (Same.refl H) ?_, fun _ _ q hq => k q _ (up hq) (SqT.of upd_same)⟩
  · rw [z]
    exact g
  · rw [z, List.append_nil]
    exact h
section
variable {P : Program} {w : World} {K : PySem.W.Frag} {mg : Str → Option Value} {base : Heap}
theorem ok_L_bent (T : Tx w K mg) : Prom P w K mg base CX0 3 "_law_bent" s_L_bent ["_law_pool_here", "_law_thing"] (spBent K) := by
  have R := bent_zero (P := P) (w := w) (base := base) T
  refine Prom.of T.d_L_bent sc_L_bent (fun vs H Q E h => ?_) (fun _ _ _ _ _ _ us hl => match us, hl with | [_, _], _ => rfl) (fun f cdv A outer s H vs Q E hr h => ?_)
  · obtain ⟨p, a, xs, rfl, _⟩ := h
    rfl
  · obtain ⟨p, a, xs, rfl, hp, hS, he, x2, x4, sh, k⟩ := h
    refine ⟨_, (pss_cons (ps_set (i := 2) sc_L_bent.nd rfl (Or.inl rfl) (pe_callP (ok_L_draw T) (hr.mono (by decide)) (by rfl) pass0 (pa_cons (pv 0) (pa_cons pe_int pa_nil))))
      (pss_cons (ps_if (pt_val (pe_callB call_isi (by rfl) T.b_isinstance (by decide +kernel) (pa_cons (pv 1) (pa_cons (pe_bltn (v := .ty "int") (by rfl) T.b_int (by decide +kernel) rfl) pa_nil)))) (pss_one (ps_ret (pe_ix ix_list (pe_lst (pa_cons (pe_op op_add (pv 1) pe_int) (pa_cons (pe_op op_sub (pv 1) pe_int) (pa_cons (pe_op op_add (pv 1) pe_int) (pa_cons (pe_op op_sub (pe_un un_neg (pv 1)) pe_int) (pa_cons (pe_op op_mul (pv 1) pe_int) (pa_cons (pe_callTy call_str_int (by rfl) T.b_str (by decide +kernel) (pa_cons (pv 1) pa_nil)) (pa_cons (pe_tup (pa_cons (pv 1) pa_nil)) (pa_cons pe_non pa_nil))))))))) (pv 2) (fun _ _ => rfl)))) pss_nil)
      (pss_cons (ps_if (pt_val (pe_callB call_isi (by rfl) T.b_isinstance (by decide +kernel) (pa_cons (pv 1) (pa_cons (pe_bltn (v := .ty "str") (by rfl) T.b_str (by decide +kernel) rfl) pa_nil)))) (pss_cons (ps_par (i := 3) (j := 4) (by rfl) sc_L_bent.nd rfl rfl (by decide) rfl rfl (pa_cons (pe_callP (ok_L_draw T) (hr.mono (by decide)) (by rfl) pass0 (pa_cons (pv 0) (pa_cons (pe_op op_add (pe_callB call_len_str (by rfl) T.b_len (by decide +kernel) (pa_cons (pv 1) pa_nil)) pe_int) pa_nil))) (pa_cons (pe_ix ix_str pe_str (pe_callP (ok_L_draw T) (hr.mono (by decide)) (by rfl) pass0 (pa_cons (pv 0) (pa_cons pe_int pa_nil))) (fun _ _ => rfl)) pa_nil)) (by rfl))
      (pss_cons (ps_if (pt_cmp (pc_lt (pv 2) pe_int)) (pss_one (ps_ret (pe_ix ix_list (pe_lst (pa_cons (pe_op op_add_str (pe_op op_add_str (pe_slice sl_str (pv 1) po_none (po_some (pv 3))) (pv 4)) (pe_slice sl_str (pv 1) (po_some (pv 3)) po_none)) (pa_cons (pe_op op_add_str (pe_slice sl_str (pv 1) po_none (po_some (pv 3))) (pe_slice sl_str (pv 1) (po_some (pe_op op_add (pv 3) pe_int)) po_none)) pa_nil))) (pe_op op_mod (pe_callTy call_int1 (by rfl) T.b_int (by decide +kernel) (pa_cons (pv 2) pa_nil)) pe_int) (fun _ _ => rfl)))) pss_nil)
      (pss_one (ps_ret (pe_ifExp (pt_cmp (pc_eqI (pv 2) pe_int)) (pe_op op_add_str (pe_op op_add_str (pe_slice sl_str (pv 1) po_none (po_some (pv 3))) (pv 4)) (pe_slice sl_str (pv 1) (po_some (pe_op op_add (pv 3) pe_int)) po_none)) (pe_op op_add_str (pe_op op_add_str (pv 1) pe_str) (pe_ix ix_list (pe_split (pv 1) pe_str) (pe_un un_neg pe_int) (fun _ _ => rfl)))))))) pss_nil)
      (pss_cons (ps_if (PW.pt (pw_or (pt_cmp (pc_eqI (pv 2) pe_int)) (pw_or (pt_not (pt_val (pe_callB call_isi (by rfl) T.b_isinstance (by decide +kernel) (pa_cons (pv 1) (pa_cons (pe_bltn (v := .ty "tuple") (by rfl) T.b_tuple (by decide +kernel) rfl) pa_nil))))) (pw_or1 (pt_cmpR (op_eqD hr.units) (pv 1) (pe_tup pa_nil) (nomark _)))))) (pss_one (ps_ret (pe_ix ix_list (pe_lst (pa_cons pe_non (pa_cons (pe_tup (pa_cons pe_int pa_nil)) (pa_cons (pe_lst pa_nil) (pa_cons pe_int pa_nil))))) (pe_callP (ok_L_draw T) (hr.mono (by decide)) (by rfl) pass0 (pa_cons (pv 0) (pa_cons pe_int pa_nil))) (fun _ _ => rfl)))) pss_nil)
      (pss_cons (ps_set (i := 3) sc_L_bent.nd rfl (Or.inl rfl) (pe_callP (ok_L_draw T) (hr.mono (by decide)) (by rfl) pass0 (pa_cons (pv 0) (pa_cons (pe_callB call_len_seq (by rfl) T.b_len (by decide +kernel) (pa_cons (pv 1) pa_nil)) pa_nil))))
      (pss_cons (ps_if (pt_cmp (pc_eqI (pv 2) pe_int)) (pss_one (ps_ret (pe_op op_catA (pe_slice sl_tupA (pv 1) po_none (po_some (pv 3))) (pe_slice sl_tupA (pv 1) (po_some (pe_op op_add (pv 3) pe_int)) po_none)))) pss_nil)
      (pss_cons (ps_if (pt_cmp (pc_eqI (pv 2) pe_int)) (pss_one (ps_ret (pe_op op_catA (pe_op op_catA (pe_slice sl_tupA (pv 1) po_none (po_some (pv 3))) (pe_slice sl_tupA (pv 1) (po_some (pv 3)) (po_some (pe_op op_add (pv 3) pe_int)))) (pe_slice sl_tupA (pv 1) (po_some (pv 3)) po_none)))) pss_nil)
      (pss_one (ps_ret (pe_op op_catA (pe_op op_catA (pe_slice sl_tupA (pv 1) po_none (po_some (pv 3))) (pe_tup (pa_cons (pe_callP R (hr.mono (by decide)) (by rfl) pass0 (pa_cons (pv 0) (pa_cons (pe_ix ix_tup (pv 1) (pv 3) (fun _ _ => rfl)) pa_nil))) pa_nil))) (pe_slice sl_tupA (pv 1) (po_some (pe_op op_add (pv 3) pe_int)) po_none))))))))))), ?_⟩
    refine ⟨_, rfl, p, _, rfl, hp, by decide, by decide, fun r H1 r0 r1 d1 => ?_⟩
    have hS1 := drew_sqT hp d1 hS
    have ty : TyX K H1 (.ref a) (.type "tuple") := dp_ty (.tup hS1 (dp_els he))
    refine ⟨_, rfl, _, _, _, _, false, rfl, .ty _, ty, kit_ty (a := "tuple") (b := "int") (by decide +kernel), false, rfl, iteF ?_⟩
    refine ⟨_, rfl, _, _, _, _, false, rfl, .ty _, ty, kit_ty (a := "tuple") (b := "str") (by decide +kernel), false, rfl, iteF ?_⟩
    refine ⟨_, rfl, _, _, rfl, rfl, _, rfl, ifd (fun c0 => ?_) (fun c0 => ?_)⟩
    · refine iteT ?_
      refine ⟨(by show 1 ≤ sizeLine; decide), fun q hq => ⟨(by show 0 ≤ sizeLine; decide), fun m hm => ⟨(by show 4 ≤ sizeLine; decide), fun l hl => ?_⟩⟩⟩
      have d2 := ((d1.new (o := .tup [.int 0]) hq).new (o := .lst []) hm).new (o := .lst [.non, .ref q, .ref m, .int 7]) hl
      refine ⟨_, rfl, p, _, rfl, d2.at_, by decide, by decide, fun j H2 j0 j1 d3 => ?_⟩
      have nl : l ≠ p := PurseAt.ne ((d1.new (o := .tup [.int 0]) hq).new (o := .lst []) hm).at_ hl
      have nm : m ≠ p := PurseAt.ne (d1.new (o := .tup [.int 0]) hq).at_ hm
      have nq : q ≠ p := PurseAt.ne d1.at_ hq
      have gl := d3.kp l _ nl upd_same
      have gm := d3.kp m _ nm (up hl _ _ upd_same)
      have gq := d3.kp q _ nq (up hl _ _ (up hm _ _ upd_same))
      have dd := d2.trans d3
      have j4 : j = 0 ∨ j = 1 ∨ j = 2 ∨ j = 3 := by omega
      rcases j4 with rfl | rfl | rfl | rfl
      · exact ⟨l, _, _, _, rfl, rfl, SqL.of gl, at_of (j := 0) rfl rfl, k _ _ _ .non (.inl rfl) dd⟩
      · exact ⟨l, _, _, _, rfl, rfl, SqL.of gl, at_of (j := 1) rfl rfl, k _ _ _ (.tup (SqT.of gq) (.cons (.int 0) .nil)) (.inr (.inl rfl)) dd⟩
      · exact ⟨l, _, _, _, rfl, rfl, SqL.of gl, at_of (j := 2) rfl rfl, k _ _ _ (.lst (SqL.of gm) .nil) (.inr (.inr (.inl rfl))) dd⟩
      · exact ⟨l, _, _, _, rfl, rfl, SqL.of gl, at_of (j := 3) rfl rfl, k _ _ _ (.int 7) (.inr (.inr (.inr (.inl rfl)))) dd⟩
    · refine ⟨_, rfl, _, _, _, _, true, rfl, .ty _, ty, kit_ty (a := "tuple") (b := "tuple") (by decide +kernel), true, rfl, iteF ?_⟩
      refine ⟨_, rfl, (by show 0 ≤ sizeLine; decide), fun q hq => ?_⟩
      have hS2 := sqT_same (up (o := .tup []) hq) hS1
      have d2 := d1.new (o := .tup []) hq
      have ev : PyData.eqv (.tuple (xs.map dOf)) (.tuple []) = false := by
        cases xs with
        | nil => exact absurd x2 (by decide)
        | cons x xs => rfl
      refine ⟨.tuple (xs.map dOf), .tuple [], .tup hS2 (dp_els he), .tup (SqT.of upd_same) .nil, sh, rfl, false, by rw [ev], iteF ?_⟩
      refine ⟨_, rfl, _, rfl, a, xs, rfl, .inr hS2, p, _, rfl, d2.at_, by show (0 : Int) < (xs.length : Int); omega, by show (xs.length : Int) ≤ _; omega, fun i H3 i0 i1 d3 => ?_⟩
      have i1 : i < (xs.length : Int) := i1
      have hS3 := drew_sqT d2.at_ d3 hS2
      have d4 := d2.trans d3
      obtain ⟨n, rfl⟩ : ∃ n : Nat, i = (n : Int) := ⟨i.toNat, by omega⟩
      have n1 : n < xs.length := by omega
      obtain ⟨x, ex⟩ : ∃ x, xs[n]? = some x := ⟨_, List.getElem?_eq_getElem n1⟩
      have eo := he x (List.mem_of_getElem? ex)
      have ed : (xs.map dOf)[n]? = some (dOf x) := by rw [List.getElem?_map, ex]; rfl
      refine gn ?_
      refine st_eq [some (.ref p), some (.ref a), some (.int r), some (.int n), none] rfl ?_
      clear hS2 d2 hq ev d3 hS1 ty c0 i0 i1
      have e1 : ((n : Int) + 1) = ((n + 1 : Nat) : Int) := rfl
      have cT : cutV xs none (some (n : Int)) = xs.take n := cut_to (Nat.le_of_lt n1)
      have cD : cutV xs (some ((n : Int) + 1)) none = xs.drop (n + 1) := by rw [e1]; exact cut_from n1
      have cF : cutV xs (some (n : Int)) none = xs.drop n := cut_from (Nat.le_of_lt n1)
      have cI : cutV xs (some (n : Int)) (some ((n : Int) + 1)) = [x] := by
        have z := List.getElem?_eq_some_iff.mp ex
        obtain ⟨_, z⟩ := z
        unfold cutV
        rw [e1, HT.sIx_nat, HT.sIx_nat, Nat.min_eq_left (Nat.le_of_lt n1), Nat.min_eq_left (show n + 1 ≤ xs.length from n1), List.drop_eq_getElem_cons n1, z, show n + 1 - n = 1 by omega]
        rfl
      have hT : ∀ y ∈ xs.take n, ElOk y := fun y hy => he y (List.mem_of_mem_take hy)
      have hD : ∀ m, ∀ y ∈ xs.drop m, ElOk y := fun m y hy => he y (List.mem_of_mem_drop hy)
      have mt : (xs.take n).map dOf = (xs.map dOf).take n := List.map_take
      have md : ∀ m, (xs.drop m).map dOf = (xs.map dOf).drop m := fun m => List.map_drop
      have LT : (xs.take n).length ≤ 4 := by rw [List.length_take]; omega
      have LD : ∀ m, (xs.drop m).length ≤ 4 := fun m => by rw [List.length_drop]; omega
      refine ⟨_, rfl, _, _, rfl, rfl, _, rfl, ifd (fun c1 => ?_) (fun c1 => ?_)⟩
      · refine ⟨_, rfl, _, rfl, _, rfl, slA_any hS3 fun b1 G1 s1 t1 => ⟨_, rfl, _, rfl, _, _, rfl, rfl, _, rfl, slA_rest (sqT_same s1 hS3) fun b2 G2 s2 t2 => ?_⟩⟩
        rw [cT] at t1
        rw [cD] at t2
        refine catA_any (sqT_same s2 t1) t2 (Nat.le_trans (Nat.add_le_add LT (LD _)) (by decide)) fun c3 G3 s3 t3 => ?_
        refine k _ (.tuple ((xs.map dOf).take n ++ (xs.map dOf).drop (n + 1))) _ (.tup t3 ?_) (.inr (.inr (.inr (.inr ⟨n, _, ed, .inl rfl⟩)))) (((d4.same s1).same s2).same s3)
        rw [← mt, ← md]
        exact DpAll.append (dp_els hT) (dp_els (hD _))
      refine ⟨_, rfl, _, _, rfl, rfl, _, rfl, ifd (fun c2 => ?_) (fun c2 => ?_)⟩
      · refine ⟨_, rfl, _, rfl, _, rfl, slA_any hS3 fun b1 G1 s1 t1 => ⟨_, rfl, _, rfl, _, rfl, _, rfl, _, _, rfl, rfl, _, rfl, slA_any (sqT_same s1 hS3) fun b2 G2 s2 t2 => ?_⟩⟩
        rw [cT] at t1
        rw [cI] at t2
        refine catA_any (sqT_same s2 t1) t2 (Nat.le_trans (Nat.add_le_add LT (show 1 ≤ 4 by decide)) (by decide)) fun c3 G3 s3 t3 => ?_
        refine ⟨_, rfl, _, rfl, _, rfl, slA_rest (sqT_same s3 (sqT_same s2 (sqT_same s1 hS3))) fun b4 G4 s4 t4 => ?_⟩
        rw [cF] at t4
        refine catA_any (sqT_same s4 t3) t4 ?_ fun c5 G5 s5 t5 => ?_
        · rw [List.length_append]
          exact Nat.le_trans (Nat.add_le_add (Nat.add_le_add LT (show 1 ≤ 4 by decide)) (LD _)) (by decide)
        refine k _ (.tuple ((xs.map dOf).take n ++ (dOf x :: (xs.map dOf).drop n))) _ (.tup t5 ?_) (.inr (.inr (.inr (.inr ⟨n, _, ed, .inr (.inl rfl)⟩)))) (((((d4.same s1).same s2).same s3).same s4).same s5)
        rw [← mt, ← md, List.append_assoc]
        exact DpAll.append (dp_els hT) (.cons (dp_el eo) (dp_els (hD _)))
      · refine ⟨_, rfl, _, rfl, _, rfl, slA_any hS3 fun b1 G1 s1 t1 => ?_⟩
        rw [cT] at t1
        have d5 := d4.same s1
        refine ⟨_, rfl, _, rfl, _, rfl, a, _, _, _, rfl, rfl, sqT_same s1 hS3, at_of rfl ex, ?_⟩
        refine ⟨p, x, rfl, d5.at_, eo, fun v' d' G2 hv hb d6 => ?_⟩
        refine ⟨(by show 1 ≤ sizeLine; decide), fun q hq => ?_⟩
        have d7 := (d5.trans d6).new (o := .tup [v']) hq
        have t1' := sqT_same (up (o := .tup [v']) hq) (drew_sqT d5.at_ d6 t1)
        refine catA_any t1' (SqT.of upd_same) (Nat.le_trans (Nat.add_le_add LT (show 1 ≤ 4 by decide)) (by decide)) fun c3 G3 s3 t3 => ?_
        refine ⟨_, rfl, _, rfl, _, _, rfl, rfl, _, rfl, slA_rest (sqT_same s3 (sqT_same (up (o := .tup [v']) hq) (drew_sqT d5.at_ d6 (sqT_same s1 hS3)))) fun b4 G4 s4 t4 => ?_⟩
        rw [cD] at t4
        refine catA_any (sqT_same s4 t3) t4 ?_ fun c5 G5 s5 t5 => ?_
        · rw [List.length_append]
          exact Nat.le_trans (Nat.add_le_add (Nat.add_le_add LT (show 1 ≤ 4 by decide)) (LD _)) (by decide)
        refine k _ (.tuple ((xs.map dOf).take n ++ (d' :: (xs.map dOf).drop (n + 1)))) _ (.tup t5 ?_) (.inr (.inr (.inr (.inr ⟨n, _, ed, .inr (.inr ⟨d', rfl, hb⟩)⟩)))) (((d7.same s3).same s4).same s5)
        rw [← mt, ← md, List.append_assoc]
        exact DpAll.append (dp_els hT) (.cons (Dp.same s5 (Dp.same s4 (Dp.same s3 (Dp.same (up hq) hv)))) (dp_els (hD _)))
end
theorem sm_drew {p : Addr} {H H1 H2 : Hp} (s : Same H H1) (d : Drew p H1 H2) (h : H p = none) : Same H H2 := fun b o e => d.kp b o (ne_of_none e h) (s b o e)
theorem sm_kp {p : Addr} {H H1 H2 : Hp} (s : Same H H1) (d : Kp p H1 H2) (h : H p = none) : Same H H2 := fun b o e => d b o (ne_of_none e h) (s b o e)
def spRightI : Sp := fun vs H Q _ => ∃ (c : Int), vs = [.int c] ∧ ∀ H', Same H H' → Q (.bl true) H'
/-! ### the law: one cell -/
theorem hv_eq {D : Ends} {σ : L2.St} {v : V} {H : Hp} (H2 : Hp) (e : H = H2) (k : D.nx σ H2) : (fun (_ : V) H1 => D.nx σ H1) v H := e ▸ k
def clmV (b c n : Int) : List V := [.str "doubled", .int b, .int c, .int n]
def pagV (x y : Int) : List V := [.int x, .int y]
theorem clm_els {b c n : Int} (h1 : 0 ≤ b) (h2 : b < 10 ^ 62) (h3 : 0 ≤ c) (h4 : c < 10 ^ 62) (h5 : 0 ≤ n) (h6 : n < 10 ^ 62) : ∀ x ∈ clmV b c n, ElOk x := by
  intro x hx
  simp only [clmV, List.mem_cons, List.not_mem_nil, or_false] at hx
  rcases hx with rfl | rfl | rfl | rfl
  · exact .inr rfl
  · exact .inl ⟨b, rfl, h1, h2⟩
  · exact .inl ⟨c, rfl, h3, h4⟩
  · exact .inl ⟨n, rfl, h5, h6⟩
theorem pag_els {x y : Int} (h1 : 0 ≤ x) (h2 : x < 10 ^ 62) (h3 : 0 ≤ y) (h4 : y < 10 ^ 62) : ∀ v ∈ pagV x y, ElOk v := by
  intro v hv
  simp only [pagV, List.mem_cons, List.not_mem_nil, or_false] at hv
  rcases hv with rfl | rfl
  · exact .inl ⟨x, rfl, h1, h2⟩
  · exact .inl ⟨y, rfl, h3, h4⟩
theorem clm_word {b c n : Int} : WordOk (.tuple ((clmV b c n).map dOf)) := by
  intro s ds e
  have e : PyData.tuple [.str "doubled", .int b, .int c, .int n] = .tuple (.str s :: ds) := e
  cases e
  exact ⟨by decide, by decide, by decide, by decide, by decide, by decide⟩
theorem clm_head {b c n : Int} : HeadOk (.tuple ((clmV b c n).map dOf)) := by
  intro ds e _
  cases e
  exact ⟨_, _, rfl⟩
theorem pag_small {x y : Int} (h1 : x < 10 ^ 63) (h2 : y < 10 ^ 63) : Small (.tuple ((pagV x y).map dOf)) := by
  intro a b e
  have e : PyData.tuple [.int x, .int y] = .tuple [.int a, .int b] := e
  cases e
  exact ⟨h1, h2⟩
theorem good_ne {s : Str} (h : goodW s = true) : s ≠ "other" ∧ s ≠ "longer" ∧ s ≠ "size" ∧ s ≠ "payload" ∧ s ≠ "missed" ∧ s ≠ "stopped" := by
  unfold goodW at h
  simp only [Bool.and_eq_true, Bool.not_eq_true', beq_eq_false_iff_ne] at h
  exact ⟨h.1.1.1.1.1, h.1.1.1.1.2, h.1.1.1.2, h.1.1.2, h.1.2, h.2⟩
theorem bent_clm {b c n : Int} {d : PyData} (h : BentT ((clmV b c n).map dOf) d) : WordOk d ∧ HeadOk d := by
  have e0 : (clmV b c n).map dOf = [.str "doubled", .int b, .int c, .int n] := rfl
  rw [e0] at h
  rcases h with rfl | rfl | rfl | rfl | ⟨i, e, hi, h⟩
  · exact ⟨fun _ _ z => (by cases z), fun _ z => by cases z⟩
  · exact ⟨fun _ _ z => (by cases z), fun ds z l => by cases z; exact absurd l (by decide)⟩
  · exact ⟨fun _ _ z => (by cases z), fun _ z => by cases z⟩
  · exact ⟨fun _ _ z => (by cases z), fun _ z => by cases z⟩
  have dd : ∀ {s : Str} {ds es : List PyData}, PyData.tuple (.str "doubled" :: es) = .tuple (.str s :: ds) → s ≠ "other" ∧ s ≠ "longer" ∧ s ≠ "size" ∧ s ≠ "payload" ∧ s ≠ "missed" ∧ s ≠ "stopped" := fun z => by
    cases z
    exact ⟨by decide, by decide, by decide, by decide, by decide, by decide⟩
  have nope : ∀ {m : Int} {s : Str} {ds es : List PyData}, PyData.tuple (.int m :: es) = .tuple (.str s :: ds) → s ≠ "other" ∧ s ≠ "longer" ∧ s ≠ "size" ∧ s ≠ "payload" ∧ s ≠ "missed" ∧ s ≠ "stopped" := fun z => by cases z
  match i, hi with
  | 0, hi =>
    cases hi
    rcases h with rfl | rfl | ⟨e', rfl, hb⟩
    · exact ⟨fun _ _ z => nope z, fun ds z l => by cases z; exact absurd (show (3 : Nat) = 4 from l) (by decide)⟩
    · exact ⟨fun _ _ z => dd z, fun ds z l => by cases z; exact absurd (show (5 : Nat) = 4 from l) (by decide)⟩
    · rcases hb with ⟨j, z, _⟩ | ⟨_, s, rfl, g⟩
      · cases z
      · exact ⟨fun s' ds z => (by cases z; exact good_ne g), fun ds z l => by cases z; exact ⟨_, _, rfl⟩⟩
  | 1, hi =>
    cases hi
    rcases h with rfl | rfl | ⟨e', rfl, hb⟩
    · exact ⟨fun _ _ z => dd z, fun ds z l => by cases z; exact ⟨_, _, rfl⟩⟩
    · exact ⟨fun _ _ z => dd z, fun ds z l => by cases z; exact ⟨_, _, rfl⟩⟩
    · exact ⟨fun _ _ z => dd z, fun ds z l => by cases z; exact ⟨_, _, rfl⟩⟩
  | 2, hi =>
    cases hi
    rcases h with rfl | rfl | ⟨e', rfl, hb⟩
    · exact ⟨fun _ _ z => dd z, fun ds z l => by cases z; exact ⟨_, _, rfl⟩⟩
    · exact ⟨fun _ _ z => dd z, fun ds z l => by cases z; exact ⟨_, _, rfl⟩⟩
    · exact ⟨fun _ _ z => dd z, fun ds z l => by cases z; exact ⟨_, _, rfl⟩⟩
  | 3, hi =>
    cases hi
    rcases h with rfl | rfl | ⟨e', rfl, hb⟩
    · exact ⟨fun _ _ z => dd z, fun ds z l => by cases z; exact ⟨_, _, rfl⟩⟩
    · exact ⟨fun _ _ z => dd z, fun ds z l => by cases z; exact ⟨_, _, rfl⟩⟩
    · exact ⟨fun _ _ z => dd z, fun ds z l => by cases z; exact ⟨_, _, rfl⟩⟩
  | j + 4, hi => simp at hi
theorem bent_pag {x y : Int} {d : PyData} (h1 : 0 ≤ x) (h2 : x < 10 ^ 62) (h3 : 0 ≤ y) (h4 : y < 10 ^ 62) (h : BentT ((pagV x y).map dOf) d) : Small d := by
  have e0 : (pagV x y).map dOf = [.int x, .int y] := rfl
  rw [e0] at h
  have B : ∀ {i j : Int} {e : PyData}, 0 ≤ i → i < 10 ^ 62 → Bent0 (.int i) e → e = .int j → j < 10 ^ 63 := fun {i j e} i0 i1 hb ej => by
    rcases hb with ⟨i', z, g⟩ | ⟨z, _⟩
    · cases z
      have := g j ej
      omega
    · cases z
  rcases h with rfl | rfl | rfl | rfl | ⟨i, e, hi, h⟩
  · exact fun _ _ z => by cases z
  · exact fun _ _ z => by cases z
  · exact fun _ _ z => by cases z
  · exact fun _ _ z => by cases z
  match i, hi with
  | 0, hi =>
    cases hi
    rcases h with rfl | rfl | ⟨e', rfl, hb⟩
    · exact fun _ _ z => by cases z
    · exact fun _ _ z => by cases z
    · exact fun a b z => by
        cases z
        exact ⟨B h1 h2 hb rfl, by omega⟩
  | 1, hi =>
    cases hi
    rcases h with rfl | rfl | ⟨e', rfl, hb⟩
    · exact fun _ _ z => by cases z
    · exact fun _ _ z => by cases z
    · exact fun a b z => by
        cases z
        exact ⟨by omega, B h3 h4 hb rfl⟩
  | j + 2, hi => simp at hi
theorem pow_figs {b : Int} (hb : 2 ≤ b) {m : Nat} (hm : 1 ≤ m) : figF b (b ^ m - 1) = m ∧ figF b (b ^ m) = m + 1 := by
  have lt := pow_lt hb m
  obtain ⟨j, rfl⟩ : ∃ j, m = j + 1 := ⟨m - 1, by omega⟩
  have lt0 := pow_lt hb j
  refine ⟨(figF_eq hb ⟨j, rfl, by omega, ?_⟩).symm, (figF_eq hb ⟨j + 1, rfl, lt, .inr (Int.le_refl _)⟩).symm⟩
  exact .inr (by omega)
section
variable {P : Program} {w : World} {K : PySem.W.Frag} {mg : Str → Option Value} {base : Heap}
structure Dat (p L M q0 q1 q2 q3 q4 u0 u1 u2 u3 : Addr) (b c n pw mx nn : Int) (H : Hp) : Prop where
  nL : L ≠ p
  nM : M ≠ p
  hp : PurseAt H p
  gL : H L = some (.lst [.ref q0, .ref q1, .ref q2, .ref q3, .ref q4])
  gM : H M = some (.lst [.ref u0, .ref u1, .ref u2, .ref u3])
  g0 : H q0 = some (.tup (pagV (pw - 1) pw))
  g1 : H q1 = some (.tup (pagV pw (pw - 1)))
  g2 : H q2 = some (.tup (pagV pw pw))
  g3 : H q3 = some (.tup (pagV (pw - 2) (pw - 1)))
  g4 : H q4 = some (.tup (pagV pw (pw + 1)))
  v0 : H u0 = some (.tup (clmV b c n))
  v1 : H u1 = some (.tup (clmV b c (n + 1)))
  v2 : H u2 = some (.tup (clmV b c mx))
  v3 : H u3 = some (.tup (clmV b c nn))
theorem Dat.drew {p L M q0 q1 q2 q3 q4 u0 u1 u2 u3 : Addr} {b c n pw mx nn : Int} {H H' : Hp} (x : Dat p L M q0 q1 q2 q3 q4 u0 u1 u2 u3 b c n pw mx nn H) (d : Drew p H H') : Dat p L M q0 q1 q2 q3 q4 u0 u1 u2 u3 b c n pw mx nn H' :=
  have t : ∀ {q : Addr} {xs : List V}, H q = some (.tup xs) → H' q = some (.tup xs) := fun h => d.keep x.hp h (fun _ z => by cases z)
  ⟨x.nL, x.nM, d.at_, d.kp _ _ x.nL x.gL, d.kp _ _ x.nM x.gM, t x.g0, t x.g1, t x.g2, t x.g3, t x.g4, t x.v0, t x.v1, t x.v2, t x.v3⟩
theorem Dat.same {p L M q0 q1 q2 q3 q4 u0 u1 u2 u3 : Addr} {b c n pw mx nn : Int} {H H' : Hp} (x : Dat p L M q0 q1 q2 q3 q4 u0 u1 u2 u3 b c n pw mx nn H) (d : Same H H') : Dat p L M q0 q1 q2 q3 q4 u0 u1 u2 u3 b c n pw mx nn H' := x.drew ((Drew.refl x.hp).same d)
theorem dp_tup {K : PySem.W.Frag} {H : Hp} {a : Addr} {xs : List V} (h : H a = some (.tup xs)) (e : ∀ x ∈ xs, ElOk x) : Dp K H (.ref a) (.tuple (xs.map dOf)) := .tup (SqT.of h) (dp_els e)
theorem ok_L_right (T : Tx w K mg) : Prom P w K mg base CX0 10 "_law_right" s_L_right ["_law_cell_here"] spRightI := by
  refine Prom.of T.d_L_right sc_L_right (fun vs H Q E h => ?_) (fun _ _ _ _ _ _ us hl => match us, hl with | [_], _ => rfl) (fun f cdv A outer s H vs Q E hr h => ?_)
  · obtain ⟨z, rfl, _⟩ := h
    rfl
  · obtain ⟨z, rfl, k⟩ := h
    have R := ok_L_bent (P := P) (w := w) (base := base) T
    refine ⟨_, (pss_cons (ps_set (i := 1) sc_L_right.nd rfl (Or.inl rfl) (pe_callP (ok_L_pool T) (hr.mono (by decide)) (by rfl) pass0 (pa_cons (pv 0) pa_nil)))
      (pss_cons (ps_par (i := 2) (j := 3) (by rfl) sc_L_right.nd rfl rfl (by decide) rfl rfl (pa_cons (pe_callP (ok_L_radix T) (hr.mono (by decide)) (by rfl) pass0 (pa_cons (pv 1) pa_nil)) (pa_cons (pe_callP (ok_L_constant T) (hr.mono (by decide)) (by rfl) pass0 (pa_cons (pv 1) (pa_cons pe_int pa_nil))) pa_nil)) (by rfl))
      (pss_cons (ps_asg (pe_callP (ok_L_power T) (hr.mono (by decide)) (by rfl) pass0 (pa_cons (pv 1) (pa_cons (pv 2) (pa_cons (pv 3) pa_nil)))) (pg_tup rfl (pgs_cons (pg_name (i := 4) sc_L_right.nd rfl (Or.inl rfl)) (pgs_cons (pg_name (i := 5) sc_L_right.nd rfl (Or.inl rfl)) pgs_nil))))
      (pss_cons (ps_set (i := 6) sc_L_right.nd rfl (Or.inl rfl) (pe_op op_sub (pe_op op_sub (pe_op op_sub (pv 4) pe_int) (pv 5)) (pv 3)))
      (pss_cons (ps_set (i := 7) sc_L_right.nd rfl (Or.inl rfl) (pe_lst (pa_cons (pe_tup (pa_cons (pe_op op_sub (pv 4) pe_int) (pa_cons (pv 4) pa_nil))) (pa_cons (pe_tup (pa_cons (pv 4) (pa_cons (pe_op op_sub (pv 4) pe_int) pa_nil))) (pa_cons (pe_tup (pa_cons (pv 4) (pa_cons (pv 4) pa_nil))) (pa_cons (pe_tup (pa_cons (pe_op op_sub (pv 4) pe_int) (pa_cons (pe_op op_sub (pv 4) pe_int) pa_nil))) (pa_cons (pe_tup (pa_cons (pv 4) (pa_cons (pe_op op_add (pv 4) pe_int) pa_nil))) pa_nil)))))))
      (pss_cons (ps_set (i := 8) sc_L_right.nd rfl (Or.inl rfl) (pe_lst (pa_cons (pe_tup (pa_cons pe_str (pa_cons (pv 2) (pa_cons (pv 3) (pa_cons (pv 6) pa_nil))))) (pa_cons (pe_tup (pa_cons pe_str (pa_cons (pv 2) (pa_cons (pv 3) (pa_cons (pe_op op_add (pv 6) pe_int) pa_nil))))) (pa_cons (pe_tup (pa_cons pe_str (pa_cons (pv 2) (pa_cons (pv 3) (pa_cons (pe_callB (call_max2 rfl) (by rfl) T.b_max (by decide +kernel) (pa_cons pe_int (pa_cons (pe_op op_sub (pv 6) pe_int) pa_nil))) pa_nil))))) pa_nil)))))
      (pss_cons (ps_expr (pe_bm PySem.F.plainAttrs_list PySem.F.slot_list_append PySem.F.type_list_append mt_append (pv 8) (pa_cons (pe_tup (pa_cons pe_str (pa_cons (pv 2) (pa_cons (pv 3) (pa_cons (pe_callP (ok_L_length T) (hr.mono (by decide)) (by rfl) pass0 (pa_cons (pv 1) (pa_cons (pv 2) pa_nil))) pa_nil))))) pa_nil)))
      (pss_cons (ps_if (PW.pt (pw_or (pt_not (pt_val (pe_callP (ok_holds T) (hr.mono (by decide)) (by rfl) pass0 (pa_cons (pe_ix ix_list (pv 8) pe_int (fun _ _ => rfl)) (pa_cons (pe_ix ix_list (pv 7) pe_int (fun _ _ => rfl)) pa_nil))))) (pw_or1 (pt_cmpR op_isnotBl (pe_callKP (ok_holds T) (hr.mono (by decide)) (by rfl) (ks := ["claim", "paper"]) (kb_of [0, 1] (by decide) (fun _ _ _ _ _ _ ws hl => match ws, hl with | [_, _], _ => rfl)) pass0 (pk_cons (pe_ix ix_list (pv 8) pe_int (fun _ _ => rfl)) (pk_cons (pe_ix ix_list (pv 7) pe_int (fun _ _ => rfl)) pk_nil))) pe_bl (nomark _))))) (pss_one (ps_ret pe_bl)) pss_nil)
      (pss_cons (ps_for PassesOwn.never (by rfl) (pi_list (pv 8)) (pg_name (i := 9) sc_L_right.nd rfl (Or.inl rfl)) (pss_one (ps_for PassesOwn.never (by rfl) (pi_list (pv 7)) (pg_name (i := 10) sc_L_right.nd rfl (Or.inl rfl)) (pss_one (ps_if (pt_cmpR op_ne (pe_callB cr_repr (by rfl) T.b_repr (by decide +kernel) (pa_cons (pe_callP (ok_holds T) (hr.mono (by decide)) (by rfl) pass0 (pa_cons (pv 9) (pa_cons (pv 10) pa_nil))) pa_nil)) (pe_callB cr_repr (by rfl) T.b_repr (by decide +kernel) (pa_cons (pe_callP (ok_L_truth T) (hr.mono (by decide)) (by rfl) pass0 (pa_cons (pv 9) (pa_cons (pv 10) pa_nil))) pa_nil)) (nomark _)) (pss_one (ps_ret pe_bl)) pss_nil)))))
      (pss_cons (ps_for PassesOwn.never (by rfl) (pi_range1 (by rfl) T.b_range (pa_cons pe_int pa_nil)) (pg_name (i := 11) sc_L_right.nd rfl (Or.inl rfl)) (pss_cons (ps_par (i := 12) (j := 13) (by rfl) sc_L_right.nd rfl rfl (by decide) rfl rfl (pa_cons (pe_ix ix_list (pv 8) pe_int (fun _ _ => rfl)) (pa_cons (pe_ix ix_list (pv 7) pe_int (fun _ _ => rfl)) pa_nil)) (by rfl))
      (pss_cons (ps_if (pt_cmp (pc_eqI (pe_callP (ok_L_draw T) (hr.mono (by decide)) (by rfl) pass0 (pa_cons (pv 1) (pa_cons pe_int pa_nil))) pe_int)) (pss_one (ps_set (i := 12) sc_L_right.nd rfl (Or.inl rfl) (pe_callP R (hr.mono (by decide)) (by rfl) pass0 (pa_cons (pv 1) (pa_cons (pv 12) pa_nil))))) (pss_one (ps_set (i := 13) sc_L_right.nd rfl (Or.inl rfl) (pe_callP R (hr.mono (by decide)) (by rfl) pass0 (pa_cons (pv 1) (pa_cons (pv 13) pa_nil))))))
      (pss_one (ps_if (pt_cmpR op_ne (pe_callB cr_repr (by rfl) T.b_repr (by decide +kernel) (pa_cons (pe_callP (ok_holds T) (hr.mono (by decide)) (by rfl) pass0 (pa_cons (pv 12) (pa_cons (pv 13) pa_nil))) pa_nil)) (pe_callB cr_repr (by rfl) T.b_repr (by decide +kernel) (pa_cons (pe_callP (ok_L_truth T) (hr.mono (by decide)) (by rfl) pass0 (pa_cons (pv 12) (pa_cons (pv 13) pa_nil))) pa_nil)) (nomark _)) (pss_one (ps_ret pe_bl)) pss_nil)))))
      (pss_one (ps_ret pe_bl)))))))))))), ?_⟩
    refine ⟨_, rfl, z, rfl, fun p H1 hp s1 hP => ?_⟩
    refine ⟨_, rfl, p, rfl, hP, fun b H2 b0 b1 d2 => ?_⟩
    refine ⟨_, rfl, p, _, rfl, d2.at_, by decide, by decide, fun c H3 c0 c1 d3 => ?_⟩
    have d3 := d2.trans d3
    refine ⟨_, _, rfl, ?_⟩
    refine ⟨_, rfl, _, rfl, _, rfl, p, b, c, rfl, d3.at_, b0, b1, c0, c1, fun t H4 m d4 ht m0 m1 m2 => ?_⟩
    have fg := pow_figs b0 m0
    obtain ⟨pw, hpw⟩ : ∃ pw, pw = b ^ m := ⟨_, rfl⟩
    rw [← hpw] at ht m1 m2 fg
    clear hpw
    refine ⟨t, _, rfl, SqT.of ht, rfl, _, _, rfl, _, _, rfl, rfl, ?_⟩
    refine st_eq [some (.int z), some (.ref p), some (.int b), some (.int c), some (.int pw), some (.int m), none, none, none, none, none, none, none, none] rfl ?_
    have d4 := d3.trans d4
    clear d2 d3 ht
    refine ⟨_, rfl, _, _, rfl, rfl, _, rfl, _, _, rfl, rfl, _, rfl, _, _, rfl, rfl, ?_⟩
    refine ⟨_, rfl, _, _, rfl, rfl, _, rfl, (by show 2 ≤ sizeLine; decide), fun q0 h0 => ?_⟩
    refine ⟨_, rfl, _, rfl, _, _, rfl, rfl, (by show 2 ≤ sizeLine; decide), fun q1 h1 => ?_⟩
    refine ⟨_, rfl, _, rfl, (by show 2 ≤ sizeLine; decide), fun q2 h2 => ?_⟩
    refine ⟨_, rfl, _, _, rfl, rfl, _, rfl, _, _, rfl, rfl, (by show 2 ≤ sizeLine; decide), fun q3 h3 => ?_⟩
    refine ⟨_, rfl, _, rfl, _, _, rfl, rfl, (by show 2 ≤ sizeLine; decide), fun q4 h4 => ?_⟩
    refine ⟨(by show 5 ≤ sizeLine; decide), fun L hL => ?_⟩
    refine gn ?_
    have S1 := up (o := .tup (pagV (pw - 1) pw)) h0
    have S2 := up (o := .tup (pagV pw (pw - 1))) h1
    have S3 := up (o := .tup (pagV pw pw)) h2
    have S4 := up (o := .tup (pagV (pw - 2) (pw - 1))) h3
    have S5 := up (o := .tup (pagV pw (pw + 1))) h4
    have S6 := up (o := .lst [.ref q0, .ref q1, .ref q2, .ref q3, .ref q4]) hL
    have nL : L ≠ p := PurseAt.ne (((((d4.same S1).same S2).same S3).same S4).same S5).at_ hL
    obtain ⟨G, hG⟩ : ∃ G, G = upd (upd (upd (upd (upd (upd H4 q0 (.tup (pagV (pw - 1) pw))) q1 (.tup (pagV pw (pw - 1)))) q2 (.tup (pagV pw pw))) q3 (.tup (pagV (pw - 2) (pw - 1)))) q4 (.tup (pagV pw (pw + 1)))) L (.lst [.ref q0, .ref q1, .ref q2, .ref q3, .ref q4]) := ⟨_, rfl⟩
    have g0 : G q0 = some (.tup (pagV (pw - 1) pw)) := by rw [hG]; exact S6 _ _ (S5 _ _ (S4 _ _ (S3 _ _ (S2 _ _ upd_same))))
    have g1 : G q1 = some (.tup (pagV pw (pw - 1))) := by rw [hG]; exact S6 _ _ (S5 _ _ (S4 _ _ (S3 _ _ upd_same)))
    have g2 : G q2 = some (.tup (pagV pw pw)) := by rw [hG]; exact S6 _ _ (S5 _ _ (S4 _ _ upd_same))
    have g3 : G q3 = some (.tup (pagV (pw - 2) (pw - 1))) := by rw [hG]; exact S6 _ _ (S5 _ _ upd_same)
    have g4 : G q4 = some (.tup (pagV pw (pw + 1))) := by rw [hG]; exact S6 _ _ upd_same
    have gL : G L = some (.lst [.ref q0, .ref q1, .ref q2, .ref q3, .ref q4]) := by rw [hG]; exact upd_same
    have dG : Drew p H1 G := by rw [hG]; exact (((((d4.same S1).same S2).same S3).same S4).same S5).same S6
    obtain ⟨n, hn⟩ : ∃ n, n = pw - 1 - (m : Int) - c := ⟨_, rfl⟩
    refine st_eq [some (.int z), some (.ref p), some (.int b), some (.int c), some (.int pw), some (.int m), some (.int n), some (.ref L), none, none, none, none, none, none] (by rw [hn]; rfl) ?_
    refine hp_eq G hG.symm ?_
    clear hG S1 S2 S3 S4 S5 S6 hL h0 h1 h2 h3 h4 d4
    refine ⟨_, rfl, _, rfl, _, rfl, (by show 4 ≤ sizeLine; decide), fun u0 h0 => ?_⟩
    refine ⟨_, rfl, _, rfl, _, rfl, _, _, rfl, rfl, (by show 4 ≤ sizeLine; decide), fun u1 h1 => ?_⟩
    refine ⟨_, rfl, _, rfl, _, rfl, _, _, rfl, rfl, _, _, rfl, ?_⟩
    obtain ⟨mx, hmx⟩ : ∃ mx : Int, mx = if n - 1 > 0 then n - 1 else 0 := ⟨_, rfl⟩
    have mx0 : 0 ≤ mx ∧ mx ≤ 10 ^ 60 := by rw [hmx]; split <;> omega
    refine ⟨(by show 4 ≤ sizeLine; decide), fun u2 h2 => ⟨(by show 3 ≤ sizeLine; decide), fun M hM => ?_⟩⟩
    refine gn ?_
    have S1 := up (o := .tup (clmV b c n)) h0
    have S2 := up (o := .tup (clmV b c (n + 1))) h1
    have S3 := up (o := .tup (clmV b c (if n - 1 > 0 then n - 1 else 0))) h2
    have S4 := up (o := .lst [.ref u0, .ref u1, .ref u2]) hM
    have nM : M ≠ p := PurseAt.ne ((dG.same S1).same S2 |>.same S3).at_ hM
    have hM1 : H1 M = none := new_before ((dG.same S1).same S2 |>.same S3) hP hM
    have NL : M ≠ L := Ne.symm (ne_of_none (S3 _ _ (S2 _ _ (S1 _ _ gL))) hM)
    obtain ⟨G2, hG⟩ : ∃ G2, G2 = upd (upd (upd (upd G u0 (.tup (clmV b c n))) u1 (.tup (clmV b c (n + 1)))) u2 (.tup (clmV b c (if n - 1 > 0 then n - 1 else 0)))) M (.lst [.ref u0, .ref u1, .ref u2]) := ⟨_, rfl⟩
    have SG : Same G G2 := by rw [hG]; exact fun x o e => S4 _ _ (S3 _ _ (S2 _ _ (S1 _ _ e)))
    have v0 : G2 u0 = some (.tup (clmV b c n)) := by rw [hG]; exact S4 _ _ (S3 _ _ (S2 _ _ upd_same))
    have v1 : G2 u1 = some (.tup (clmV b c (n + 1))) := by rw [hG]; exact S4 _ _ (S3 _ _ upd_same)
    have v2 : G2 u2 = some (.tup (clmV b c mx)) := by rw [hG, hmx]; exact S4 _ _ upd_same
    have gM : G2 M = some (.lst [.ref u0, .ref u1, .ref u2]) := by rw [hG]; exact upd_same
    have dG2 := dG.same SG
    have g0 := SG _ _ g0
    have g1 := SG _ _ g1
    have g2 := SG _ _ g2
    have g3 := SG _ _ g3
    have g4 := SG _ _ g4
    have gL := SG _ _ gL
    refine st_eq [some (.int z), some (.ref p), some (.int b), some (.int c), some (.int pw), some (.int m), some (.int n), some (.ref L), some (.ref M), none, none, none, none, none] rfl ?_
    refine hp_eq G2 hG.symm ?_
    clear hG S1 S2 S3 S4 hM h0 h1 h2 dG SG hmx
    refine ⟨_, rfl, .inl ⟨rfl, _, SqL.of gM⟩, ?_⟩
    refine ⟨_, rfl, _, rfl, _, rfl, _, rfl, p, b, rfl, dG2.at_, b0, b1, fun nn G3 nn0 nn1 d3 => ?_⟩
    have gM := d3.kp _ _ nM gM
    have v0 := d3.keep dG2.at_ v0 (fun _ z => by cases z)
    have v1 := d3.keep dG2.at_ v1 (fun _ z => by cases z)
    have v2 := d3.keep dG2.at_ v2 (fun _ z => by cases z)
    have g0 := d3.keep dG2.at_ g0 (fun _ z => by cases z)
    have g1 := d3.keep dG2.at_ g1 (fun _ z => by cases z)
    have g2 := d3.keep dG2.at_ g2 (fun _ z => by cases z)
    have g3 := d3.keep dG2.at_ g3 (fun _ z => by cases z)
    have g4 := d3.keep dG2.at_ g4 (fun _ z => by cases z)
    have gL := d3.kp _ _ nL gL
    have dG3 := dG2.trans d3
    clear d3 dG2
    refine ⟨(by show 4 ≤ sizeLine; decide), fun u3 h3 => ⟨M, _, _, rfl, rfl, up h3 _ _ gM, (by show 3 < sizeLine; decide), ?_⟩⟩
    have S3 := up (o := .tup (clmV b c nn)) h3
    have tM : ∀ {q : Addr} {xs : List V}, G3 q = some (.tup xs) → q ≠ M := fun h z => by rw [z, gM] at h; cases h
    obtain ⟨F, hF⟩ : ∃ F, F = upd (upd G3 u3 (.tup (clmV b c nn))) M (.lst [.ref u0, .ref u1, .ref u2, .ref u3]) := ⟨_, rfl⟩
    have dF : Drew p H1 F := by
      rw [hF]
      have k1 := (dG3.same S3)
      refine ⟨?_, fun q o n e => ?_⟩
      · obtain ⟨e1, e2, e3, e4, r⟩ := k1.at_
        exact ⟨e1, e2, e3, by rw [upd_ne (Ne.symm nM)]; exact e4, r⟩
      · rw [upd_ne (ne_of_none e hM1)]
        exact k1.kp q o n e
    have X : Dat p L M q0 q1 q2 q3 q4 u0 u1 u2 u3 b c n pw mx nn F := by
      have t : ∀ {q : Addr} {xs : List V}, G3 q = some (.tup xs) → F q = some (.tup xs) := fun h => by
        rw [hF, upd_ne (tM h)]
        exact S3 _ _ h
      refine ⟨nL, nM, dF.at_, ?_, ?_, t g0, t g1, t g2, t g3, t g4, t v0, t v1, t v2, ?_⟩
      · rw [hF, upd_ne (Ne.symm NL)]
        exact S3 _ _ gL
      · rw [hF]
        exact upd_same
      · rw [hF, upd_ne (Ne.symm (ne_of_none gM h3))]
        exact upd_same
    refine hv_eq (v := .non) (H := upd (upd G3 u3 (.tup [.str "doubled", .int b, .int c, .int nn])) M (.lst ([V.ref u0, V.ref u1, V.ref u2] ++ [V.ref u3]))) F hF.symm ?_
    clear hF tM S3 h3 gM v0 v1 v2 g0 g1 g2 g3 g4 gL dG3 NL nL nM hM1
    have n0 : 0 ≤ n ∧ n ≤ 10 ^ 60 - 1 := by omega
    have eB : ∀ {j : Int}, 0 ≤ j → j ≤ 10 ^ 60 → ∀ x ∈ clmV b c j, ElOk x := fun {j} j0 j1 => clm_els (by omega) (by omega) c0 (by omega) j0 (by omega)
    have eP : ∀ {x y : Int}, 0 ≤ x → x ≤ 10 ^ 60 + 1 → 0 ≤ y → y ≤ 10 ^ 60 + 1 → ∀ v ∈ pagV x y, ElOk v := fun {x y} x0 x1 y0 y1 => pag_els x0 (by omega) y0 (by omega)
    have yes : HoldsP (.tuple ((clmV b c n).map dOf)) (.tuple ((pagV (pw - 1) pw).map dOf)) := ⟨_, rfl, b, c, n, pw - 1, pw, rfl, rfl, b0, b1, c0, c1, n0.1, n0.2, by omega, by omega, by rw [fg.1]; omega, by rw [fg.2]; omega⟩
    refine ⟨_, rfl, M, _, _, _, rfl, rfl, SqL.of X.gM, at_of (j := 0) rfl rfl, _, rfl, L, _, _, _, rfl, rfl, SqL.of X.gL, at_of (j := 0) rfl rfl, ?_⟩
    refine ⟨_, _, _, _, rfl, dp_tup X.v0 (eB n0.1 (by omega)), dp_tup X.g0 (eP (by omega) (by omega) (by omega) (by omega)), pag_small (by omega) (by omega), clm_word, fun r F1 hr1 s2 => ?_⟩
    obtain rfl : r = true := hr1.mpr yes
    have X1 := X.same s2
    have d2 := dF.same s2
    refine ⟨_, rfl, iteF ?_⟩
    refine ⟨_, rfl, M, _, _, _, rfl, rfl, SqL.of X1.gM, at_of (j := 0) rfl rfl, _, rfl, L, _, _, _, rfl, rfl, SqL.of X1.gL, at_of (j := 0) rfl rfl, ?_⟩
    refine ⟨_, _, _, _, rfl, dp_tup X1.v0 (eB n0.1 (by omega)), dp_tup X1.g0 (eP (by omega) (by omega) (by omega) (by omega)), pag_small (by omega) (by omega), clm_word, fun r F2 hr2 s3 => ?_⟩
    obtain rfl : r = true := hr2.mpr yes
    have X2 := X1.same s3
    have d3 := d2.same s3
    clear X X1 d2 dF s2 s3 hr1 hr2
    refine ⟨true, rfl, false, by simp, iteF ?_⟩
    have key : ∀ {r1 r2 : Bool} {Z : Prop}, (r1 = true ↔ Z) → (r2 = true ↔ Z) → r1 = r2 := fun {r1 r2 Z} h1 h2 => by
      cases r1 <;> cases r2
      · rfl
      · exact (Bool.noConfusion (h1.mpr (h2.mp rfl)))
      · exact (Bool.noConfusion (h2.mpr (h1.mp rfl)))
      · rfl
    refine ⟨_, rfl, M, rfl, ⟨_, SqL.of X2.gM⟩, for_list (xs := [.ref u0, .ref u1, .ref u2, .ref u3]) (fun i σ H' => Drew p H1 H' ∧ Dat p L M q0 q1 q2 q3 q4 u0 u1 u2 u3 b c n pw mx nn H' ∧ ∃ e9 e10, σ = [some (.int z), some (.ref p), some (.int b), some (.int c), some (.int pw), some (.int m), some (.int n), some (.ref L), some (.ref M), e9, e10, none, none, none]) ⟨d3, X2, none, none, rfl⟩ (fun i σ H' _ h => SqL.of h.2.1.gM) ?_ ?_⟩
    · rintro i x σ H' hi ⟨d5, X5, e9, e10, rfl⟩
      obtain ⟨u, j, rfl, j0, j1, hu⟩ : ∃ (u : Addr) (j : Int), x = .ref u ∧ 0 ≤ j ∧ j ≤ 10 ^ 60 ∧ ∀ H, Dat p L M q0 q1 q2 q3 q4 u0 u1 u2 u3 b c n pw mx nn H → H u = some (.tup (clmV b c j)) := by
        match i, hi with
        | 0, h => cases h; exact ⟨u0, n, rfl, n0.1, by omega, fun H x => x.v0⟩
        | 1, h => cases h; exact ⟨u1, n + 1, rfl, by omega, by omega, fun H x => x.v1⟩
        | 2, h => cases h; exact ⟨u2, mx, rfl, mx0.1, mx0.2, fun H x => x.v2⟩
        | 3, h => cases h; exact ⟨u3, nn, rfl, nn0, by omega, fun H x => x.v3⟩
      clear hi
      refine gn ?_
      refine ⟨_, rfl, L, rfl, ⟨_, SqL.of X5.gL⟩, for_list (xs := [.ref q0, .ref q1, .ref q2, .ref q3, .ref q4]) (fun i σ H' => Drew p H1 H' ∧ Dat p L M q0 q1 q2 q3 q4 u0 u1 u2 u3 b c n pw mx nn H' ∧ ∃ e10, σ = [some (.int z), some (.ref p), some (.int b), some (.int c), some (.int pw), some (.int m), some (.int n), some (.ref L), some (.ref M), some (.ref u), e10, none, none, none]) ⟨d5, X5, e10, rfl⟩ (fun i σ H' _ h => SqL.of h.2.1.gL) ?_ ?_⟩
      · rintro i' x σ H6 hi ⟨d6, X6, e10, rfl⟩
        obtain ⟨q, x1, x2, rfl, x10, x11, x20, x21, hq⟩ : ∃ (q : Addr) (x1 x2 : Int), x = .ref q ∧ 0 ≤ x1 ∧ x1 ≤ 10 ^ 60 + 1 ∧ 0 ≤ x2 ∧ x2 ≤ 10 ^ 60 + 1 ∧ ∀ H, Dat p L M q0 q1 q2 q3 q4 u0 u1 u2 u3 b c n pw mx nn H → H q = some (.tup (pagV x1 x2)) := by
          match i', hi with
          | 0, h => cases h; exact ⟨q0, pw - 1, pw, rfl, by omega, by omega, by omega, by omega, fun H x => x.g0⟩
          | 1, h => cases h; exact ⟨q1, pw, pw - 1, rfl, by omega, by omega, by omega, by omega, fun H x => x.g1⟩
          | 2, h => cases h; exact ⟨q2, pw, pw, rfl, by omega, by omega, by omega, by omega, fun H x => x.g2⟩
          | 3, h => cases h; exact ⟨q3, pw - 2, pw - 1, rfl, by omega, by omega, by omega, by omega, fun H x => x.g3⟩
          | 4, h => cases h; exact ⟨q4, pw, pw + 1, rfl, by omega, by omega, by omega, by omega, fun H x => x.g4⟩
        clear hi
        refine gn ?_
        refine ⟨_, rfl, _, rfl, _, _, _, _, rfl, dp_tup (hu _ X6) (eB j0 j1), dp_tup (hq _ X6) (eP x10 x11 x20 x21), pag_small (by omega) (by omega), clm_word, fun r1 F7 hr1 s7 => ?_⟩
        have X7 := X6.same s7
        refine ⟨_, _, rfl, rfl, ?_⟩
        refine ⟨_, rfl, _, rfl, _, _, _, _, rfl, dp_tup (hu _ X7) (eB j0 j1), dp_tup (hq _ X7) (eP x10 x11 x20 x21), pag_small (by omega) (by omega), clm_head, fun r2 F8 hr2 s8 => ?_⟩
        obtain rfl := key hr1 hr2
        refine ⟨_, _, rfl, rfl, rfl, _, rfl, ifn (fun c => absurd rfl c) (fun _ => ?_)⟩
        exact ⟨(d6.same s7).same s8, X7.same s8, _, rfl⟩
      · rintro σ H7 ⟨d7, X7, e10, rfl⟩
        exact ⟨d7, X7, _, _, rfl⟩
    · rintro σ H7 ⟨d7, X7, e9, e10, rfl⟩
      refine ⟨10, rfl, by decide, by decide, for_range (lo := 0) (fun i σ H' => Drew p H1 H' ∧ Dat p L M q0 q1 q2 q3 q4 u0 u1 u2 u3 b c n pw mx nn H' ∧ ∃ e11 e12 e13, σ = [some (.int z), some (.ref p), some (.int b), some (.int c), some (.int pw), some (.int m), some (.int n), some (.ref L), some (.ref M), e9, e10, e11, e12, e13]) ⟨d7, X7, none, none, none, rfl⟩ ?_ ?_⟩
      · rintro i σ H8 hi ⟨d8, X8, e11, e12, e13, rfl⟩
        refine gn ?_
        refine ⟨_, rfl, M, _, _, _, rfl, rfl, SqL.of X8.gM, at_of (j := 0) rfl rfl, _, rfl, L, _, _, _, rfl, rfl, SqL.of X8.gL, at_of (j := 0) rfl rfl, _, _, rfl, ?_⟩
        refine st_eq [some (.int z), some (.ref p), some (.int b), some (.int c), some (.int pw), some (.int m), some (.int n), some (.ref L), some (.ref M), e9, e10, some (.int (0 + (i : Int))), some (.ref u0), some (.ref q0)] rfl ?_
        refine ⟨_, rfl, p, _, rfl, X8.hp, by decide, by decide, fun r H9 r0 r1 dd => ?_⟩
        have X9 := X8.drew dd
        have d9 := d8.trans dd
        refine ⟨_, _, rfl, rfl, _, rfl, ifd (fun c6 => ?_) (fun c6 => ?_)⟩
        · refine ⟨_, rfl, _, rfl, p, u0, clmV b c n, rfl, X9.hp, SqT.of X9.v0, eB n0.1 (by omega), by show 2 ≤ 4; decide, by show 4 ≤ 4; decide, (by kernel_rfl), fun v' d' H10 hv hb dx => ?_⟩
          obtain ⟨wo, ho⟩ := bent_clm hb
          have X10 := X9.drew dx
          have d10 := d9.trans dx
          refine gn ?_
          refine st_eq [some (.int z), some (.ref p), some (.int b), some (.int c), some (.int pw), some (.int m), some (.int n), some (.ref L), some (.ref M), e9, e10, some (.int (0 + (i : Int))), some v', some (.ref q0)] rfl ?_
          refine ⟨_, rfl, _, rfl, _, _, _, _, rfl, hv, dp_tup X10.g0 (eP (by omega) (by omega) (by omega) (by omega)), pag_small (by omega) (by omega), wo, fun r1 F7 hr1 s7 => ?_⟩
          have X11 := X10.same s7
          refine ⟨_, _, rfl, rfl, ?_⟩
          refine ⟨_, rfl, _, rfl, _, _, _, _, rfl, Dp.same s7 hv, dp_tup X11.g0 (eP (by omega) (by omega) (by omega) (by omega)), pag_small (by omega) (by omega), ho, fun r2 F8 hr2 s8 => ?_⟩
          obtain rfl := key hr1 hr2
          refine ⟨_, _, rfl, rfl, rfl, _, rfl, ifn (fun c => absurd rfl c) (fun _ => ?_)⟩
          exact ⟨(d10.same s7).same s8, X11.same s8, _, _, _, rfl⟩
        · refine ⟨_, rfl, _, rfl, p, q0, pagV (pw - 1) pw, rfl, X9.hp, SqT.of X9.g0, eP (by omega) (by omega) (by omega) (by omega), by show 2 ≤ 2; decide, by show 2 ≤ 4; decide, (by kernel_rfl), fun v' d' H10 hv hb dx => ?_⟩
          have sm := bent_pag (by omega) (by omega) (by omega) (by omega) hb
          have X10 := X9.drew dx
          have d10 := d9.trans dx
          refine gn ?_
          refine st_eq [some (.int z), some (.ref p), some (.int b), some (.int c), some (.int pw), some (.int m), some (.int n), some (.ref L), some (.ref M), e9, e10, some (.int (0 + (i : Int))), some (.ref u0), some v'] rfl ?_
          refine ⟨_, rfl, _, rfl, _, _, _, _, rfl, dp_tup X10.v0 (eB n0.1 (by omega)), hv, sm, clm_word, fun r1 F7 hr1 s7 => ?_⟩
          have X11 := X10.same s7
          refine ⟨_, _, rfl, rfl, ?_⟩
          refine ⟨_, rfl, _, rfl, _, _, _, _, rfl, dp_tup X11.v0 (eB n0.1 (by omega)), Dp.same s7 hv, sm, clm_head, fun r2 F8 hr2 s8 => ?_⟩
          obtain rfl := key hr1 hr2
          refine ⟨_, _, rfl, rfl, rfl, _, rfl, ifn (fun c => absurd rfl c) (fun _ => ?_)⟩
          exact ⟨(d10.same s7).same s8, X11.same s8, _, _, _, rfl⟩
      · rintro σ H8 ⟨d8, _⟩
        exact k _ (sm_drew s1 d8 hp)
end
section
variable {P : Program} {w : World} {K : PySem.W.Frag} {mg : Str → Option Value} {base : Heap}
theorem ok_law (T : Tx w K mg) : PromG P w K mg base 11 "law" s_law ["_law_cells"] (spLaw K) := by
  refine PromG.of T.d_law sc_law (fun vs H Q E h => ?_) (fun _ _ _ _ _ _ us hl => match us, hl with | [_], _ => rfl) (fun f cdv A outer s H vs Q E hr hgd h => ?_)
  · obtain ⟨a, ns, rfl, _⟩ := h
    rfl
  · obtain ⟨a, ns, rfl, hS, hl, hz, k⟩ := h
    refine ⟨_, (pss_one (ps_ret (pe_callB (cr_all rfl) (by rfl) T.b_all (by decide +kernel) (pa_cons (pe_lc (own := [("_law_k", 1)]) (g := (gName 1)) (tt := tYes) (by rfl) sc_law.nd (pi_range1 (by rfl) T.b_range (pa_cons (pe_callB (call_max2 rfl) (by rfl) T.b_max (by decide +kernel) (pa_cons pe_int (pa_cons (pe_callB (call_min2 rfl) (by rfl) T.b_min (by decide +kernel) (pa_cons (pe_callB call_len_seq (by rfl) T.b_len (by decide +kernel) (pa_cons (pv 0) pa_nil)) (pa_cons pe_int pa_nil))) pa_nil))) pa_nil)) (blkOk_by (own := [("_law_k", 1)]) (N := ["_law_cells", "_law_k"]) (sc := defScope s_law) (by decide +kernel)) (fun _ _ _ _ _ => (pg_name (i := 1) sc_law.nd rfl (Or.inl rfl))) (fun _ _ _ _ _ => pts_nil) (fun _ _ _ _ _ => (pe_callP (ok_L_right T) (hr.mono (by decide)) (by rfl) pass0 (pa_cons (pe_callP (ok_L_cell T) (hr.mono (by decide)) (by rfl) pass0 (pa_cons (pv 0) (pa_cons (pv 1) pa_nil))) pa_nil)))) pa_nil)))), ?_⟩
    refine ⟨_, rfl, _, _, rfl, .inl hS, _, _, rfl, _, _, rfl, _, rfl, ?_, ?_, fun D hD => ?_⟩
    · split <;> split <;> omega
    · split <;> split <;> omega
    refine lc_range (lo := 0) (Pv := fun i H' => Same H H' ∧ H' D = some (.lst (List.replicate i (.bl true)))) ⟨fun b o e => by rw [upd_ne (ne_of_none e hD)]; exact e, upd_same⟩ ?_ ?_
    · rintro i H' hi ⟨hs, hl2⟩
      refine ⟨rfl, _, rfl, _, rfl, a, ns, _, rfl, hs.seq hS, by omega, ?_, fun z => ?_⟩
      · rw [List.length_map] at hi
        split at hi <;> split at hi <;> omega
      refine ⟨z, rfl, fun H4 s4 => ?_⟩
      refine ⟨_, s4 _ _ hl2, ?_, fun b o e => ?_, ?_⟩
      · rw [List.length_replicate]
        rw [List.length_map] at hi
        refine Nat.lt_of_lt_of_le (m := 100) ?_ (by decide)
        split at hi <;> split at hi <;> omega
      · rw [upd_ne (ne_of_none e hD)]
        exact s4 _ _ (hs _ _ e)
      · rw [upd_same, List.replicate_succ']
    · rintro H' ⟨hs, hl2⟩
      refine ⟨D, List.replicate _ true, rfl, SqL.of (by rw [List.map_replicate]; exact hl2), ?_⟩
      have e : ∀ n : Nat, (List.replicate n true).all id = true := fun n => by simp
      show Q (.bl ((List.replicate _ true).all id)) H'
      rw [e]
      exact k _
end
theorem facts {P : Program} {w : World} {K : PySem.W.Frag} {h : Heap} {mg : Str → Option Value} {f : Addr} (X : K.In h) (G : h.Ns mainGlobals mg) (hfa : mg ("law" : Str) = some (.ref f)) (c0 : SaysX fbL faL fnL tabL w K) :
    ∃ fd : FuncData, (∀ (s : Shared) (v : Value), BindsTo s fd ⟨[v], []⟩ [("_law_cells", v)]) ∧ ∀ base : Heap, K.In base → base.Ns mainGlobals mg → FnG P w K mg base 11 f fd ["_law_cells"] (spLaw K) := by
  have T := tx_of (w := w) X G c0
  have c : He.SaysD faL fnL K := c0.t.d
  obtain ⟨fd, F⟩ := c.def_ 41 (d := dd_law) rfl
  have hm := He.glo_ok X G (c.fact 41 (f := .glo "law") rfl)
  have e := hfa.symm.trans hm
  cases e
  have b := FunD.bindsA (ps := ["_law_cells"]) F fun _ _ _ _ _ _ us hl => match us, hl with | [_], _ => rfl
  refine ⟨fd, fun s v => b s [v] rfl, fun base _ _ => ?_⟩
  obtain ⟨f', fd', F', hm', D', _⟩ := (ok_law (P := P) (w := w) (base := base) T).ex
  cases hm.symm.trans hm'
  have efd : fd' = fd := by
    obtain ⟨_, _, _, _, _, _, _, _, _, _, _, l1, _⟩ := F.ex
    obtain ⟨_, _, _, _, _, _, _, _, _, _, _, l2, _⟩ := D'.ex
    have l2' := l2.symm.trans l1
    injection l2' with l3
    injection l3 with _ _ l4 _
    injection l4
  rw [← efd]
  exact F' 
end Sz
open PySem PySem.W PySem.Calls PyProof.Rows in
set_option maxRecDepth 100000 in
set_option maxHeartbeats 0 in
theorem PySem.Challenge.cw_sizestacks_k57_doubled_judged_holds : PySem.Challenge.rw_sizestacks_k57_doubled_judged.Holds := by
  w_on; o_law
  refine HandSHeadRun.head_any (r := OpenLaw.row PySem.Challenge.rw_sizestacks_k57_doubled_judged) (q := view (OpenLaw.row PySem.Challenge.rw_sizestacks_k57_doubled_judged).prog [72]) (H := Sz.hk) (ob := Sz.ob) (M := 30000) (loose := Sz.looseL) (d := HandSHeadRun.topDef (OpenLaw.row PySem.Challenge.rw_sizestacks_k57_doubled_judged).prog 72) (kwd := []) Sz.ob_eq
    (by kernel_rfl) (fun z => by kernel_rfl) Sz.run (by kernel_rfl) (by kernel_rfl) (by kernel_rfl) (by rfl) (by first | assumption | decide +kernel) (by decide +kernel) ⟨rfl, rfl, rfl, rfl, rfl, by decide +kernel⟩ ?hw ?hc
  case hw => w_witness2
  case hc =>
    refine Sz.walk_ofG (l := PySem.Challenge.rw_sizestacks_k57_doubled_judged) (n := 63) (k := 11) (x := "_law_cells") rfl (by decide) (by kernel_rfl) ⟨rfl, by decide, by decide⟩ ?F
    intro w mg fa h Y G hmg0
    obtain ⟨K, KX, c⟩ := Y
    have hmg : mg ("law" : PySem.Str) = some (.ref fa) := by
      have e : (HandSHeadRun.topDef (OpenLaw.row PySem.Challenge.rw_sizestacks_k57_doubled_judged).prog 72).name = ("law" : PySem.Str) := by kernel_rfl
      rw [← e]
      exact hmg0
    obtain ⟨fd, hb, hF⟩ := Sz.facts (P := (PySem.Challenge.rw_sizestacks_k57_doubled_judged).prog) (w := w) KX G hmg c
    exact ⟨K, fd, Sz.spLaw K, KX, hb, fun H a ns hl hz hS => ⟨a, ns, rfl, hS, hl, hz, fun _ => rfl⟩, hF⟩
