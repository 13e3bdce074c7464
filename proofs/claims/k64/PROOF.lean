import PyProof.Rows.All
import Wide.All
import OpenK.AllK
import Wide.FinOn
import KE.KStateDown
import HandS.ForMost
import HandS.Exc
import HandS.Wide
import HandS.WideBits
import HandS.IsInst
import HandS.Style
import HandS.RaiseMore
import HandS.Defaults
import HandS.Evl
import HandS.EndBits
import HandS.Words
import HandS.WordsExc
import HandS.Head0
import HandS.Head1
import HandS.Head2
import HandS.HeadEnd
import HandS.HeadHook1
import HandS.HeadHook2
import PySem.Challenge.RW_sizestacks_k64_doubled_by_looking
set_option Elab.async false
set_option linter.all false
set_option maxRecDepth 100000
set_option maxHeartbeats 4000000
set_option exponentiation.threshold 20000
/-! Own base: a def by its promise, a few rules more. -/
namespace Sz
open PySem PySem.Spec PyProof.Rows L2

/-- a def of the text, by its name -/
def DefAt (K : PySem.W.Frag) (mg : Str → Option Value) (x : Str) (st : Stmt) : Prop :=
  ∃ f fd, FunD K x x (defArgs st) (defBody st) (defScope st) [] [] f fd ∧ mg x = some (.ref f)

/-- the def named x keeps the promise sp -/
structure Prom (P : Program) (w : World) (K : PySem.W.Frag) (mg : Str → Option Value) (base : Heap) (CX : CXT) (k : Nat) (x : Str) (st : Stmt) (ps : List Str) (sp : Sp) : Prop where
  ex : ∃ f fd, FnOk P w K mg base CX k f fd ps sp ∧ mg x = some (.ref f) ∧ FunD K x x (defArgs st) (defBody st) (defScope st) [] [] f fd ∧ Binds K fd ps []

section
variable {P : Program} {w : World} {K : PySem.W.Frag} {mg : Str → Option Value} {base : Heap}
theorem Prom.of {x : Str} {st : Stmt} {ps N : List Str} {sp : Sp} {k : Nat} (D : DefAt K mg x st) (S : FnScope N ps (defScope st)) (len : ∀ vs H Q E, sp vs H Q E → vs.length = ps.length)
    (hb : ∀ (kV doc pm : Value) (an : Option Addr) (cdv ct : Value) (us : List Value), us.length = ps.length → bindArgs (PySem.W.fnOf x x (defArgs st) (defBody st) (defScope st) .none kV doc pm an cdv ct) ⟨us, []⟩ = pure (ps.zip us))
    (hbody : ∀ (f : Addr) (cdv : Value) (A : Around) (outer : List Env) (s : Shared) (H : Hp) (vs : List V) (Q : VK) (E : XK), Room k (A.deeper (envOfC x (defScope st) s.heap.objs.size f cdv)) → sp vs H Q E →
      ∃ t, PSs (cxOf CX0 P w K mg base N x (defScope st) f cdv A outer s H E).nox (defBody st) t ∧ t { nx := fun _ H' => Q .non H', rt := Q } (start N vs) H) :
    Prom P w K mg base CX0 (k + 1) x st ps sp := by
  obtain ⟨f, fd, F, hm⟩ := D
  refine ⟨f, fd, F.ok S len (fun cdv A outer s H vs Q E hr hs => ?_), hm, F, F.bindsN hb⟩
  obtain ⟨t, h1, h2⟩ := hbody f cdv A outer s H vs Q E hr hs
  exact ⟨t, h1.nox, h2⟩
end

section
variable {X : Cx} {CX : CXT} {k : Nat} {x : Str} {st : Stmt} {ps : List Str} {sp : Sp} {E : XK} {e : Expr} {es : List Expr} {t tk : TA} {p pos : Pos} {kws : List Keyword} {ks : List Str}
theorem pe_callP (G : Prom X.prog X.w X.K X.mg X.base CX k x st ps sp) (hr : Room k X.A) (hg : Gl X x) (hx : Passes CX X E) (ha : PA X (e :: es) t)
    (hdb : (x == ("__debug__" : Str)) = false := by decide) (he : starEach (e :: es) X.env = (false, eval e X.env) :: starEach es X.env := by rfl) (hpl : (backTo pos (starEach es X.env)).any (·.1) = false := by rfl) :
    PE X (.Call (.Name x p) (e :: es) [] pos) (tCall sp [] E t) := by
  obtain ⟨f, fd, F, hm, D, hb⟩ := G.ex
  exact pe_call F hr hg hm D.kp hb .nil hx ha hdb he hpl
/-- f(k = v, ..), keywords alone -/
theorem pe_callKP {g : List Value → List Value → List Value} {gV : List V → List V → List V} (G : Prom X.prog X.w X.K X.mg X.base CX k x st ps sp) (hr : Room k X.A) (hg : Gl X x) 
    (hb : ∀ fd f, FunD X.K x x (defArgs st) (defBody st) (defScope st) [] [] f fd → KBinds X.K fd ps ks g gV) (hx : Passes CX X E)
    (hkw : PK X kws tk) (hall : (backToKw pos (keywordEach kws X.env)).all (·.1.isSome) = true := by rfl) (hks : (backToKw pos (keywordEach kws X.env)).filterMap (·.1) = ks := by rfl)
    (hdb : (x == ("__debug__" : Str)) = false := by decide)
    (hpl : ((backTo pos (starEach [] X.env)).any (·.1) || (backToKw pos (keywordEach kws X.env)).any (·.1.isNone)) = false := by rfl) :
    PE X (.Call (.Name x p) [] kws pos) (tCallK sp gV E tNil tk) := by
  obtain ⟨f, fd, F, hm, D, _⟩ := G.ex
  have hb := hb fd f D
  refine ⟨fun pins s σ H Q I h => ?_⟩
  refine wpAny_Call_Name_kw (ld_glob I hg hm ?_ hdb)
  refine PySem.W.callWith_KW0 (h₀ := X.base) I.ok.mod.kin D.kp hall (thn (hkw.run pos pins s σ H _ I h) fun ws s2 z => ?_) hpl
  obtain ⟨zs, H2, I2, rz, q2⟩ := z
  refine ⟨I2.kIn, ?_⟩
  rw [hks]
  exact run_fnk F hr hb hx I2 .nil rz q2
/-- the keywords' values put in the parameters' order -/
def perm {α : Type} (ix : List Nat) (us ws : List α) : List α := match us with
  | [] => if ws.length = ix.length then ix.filterMap fun i => ws[i]? else []
  | _ :: _ => []
theorem perm_vals {ix : List Nat} {vs zs : List V} {us ws : List Value} (r : Vals vs us) (z : Vals zs ws) : Vals (perm ix vs zs) (perm ix us ws) := by
  cases r with
  | cons _ _ => exact .nil
  | nil =>
    show Vals (if zs.length = ix.length then _ else _) (if ws.length = ix.length then _ else _)
    rw [z.length]
    by_cases c : ws.length = ix.length
    · rw [if_pos c, if_pos c]
      clear c
      induction ix with
      | nil => exact .nil
      | cons i ix ih =>
        rw [List.filterMap_cons, List.filterMap_cons]
        cases e : zs[i]? with
        | none =>
          rw [z.none_of e]
          exact ih
        | some v =>
          obtain ⟨u, hu, rv⟩ := z.get e
          rw [hu]
          exact .cons rv ih
    · rw [if_neg c, if_neg c]
      exact .nil
theorem kb_of {K : PySem.W.Frag} (ix : List Nat) (hne : 0 < ps.length)
    (h : ∀ (kV doc pm : Value) (an : Option Addr) (cdv ct : Value) (ws : List Value), ws.length = ix.length → bindArgs (PySem.W.fnOf x x (defArgs st) (defBody st) (defScope st) .none kV doc pm an cdv ct) ⟨[], ks.zip ws⟩ = pure (ps.zip (perm ix [] ws))) :
    ∀ fd f, FunD K x x (defArgs st) (defBody st) (defScope st) [] [] f fd → KBinds K fd ps ks (perm ix) (perm ix) := fun fd f F => by
  obtain ⟨oc, od, dV, kV, doc, pm, an, cdv, ct, osl, rfl, lk, hcd, hD, hK⟩ := F.ex
  rcases hD with ⟨_, rfl⟩ | ⟨e, _⟩
  · refine ⟨fun s us ws _ hl => ?_, fun r z => perm_vals r z⟩
    cases us with
    | cons u us =>
      have e0 : (perm ix (u :: us) ws).length = 0 := rfl
      omega
    | nil =>
      by_cases c : ws.length = ix.length
      · exact .of_eq (h kV doc pm an cdv ct ws c)
      · have e0 : perm ix [] ws = [] := if_neg c
        rw [e0] at hl
        simp at hl
        omega
  · exact absurd rfl e
/-- a constant of the module -/
theorem pe_gint {v : Int} (h : ∃ u, X.mg x = some (.int v u)) (hg : Gl X x := by rfl) (hd : (x == ("__debug__" : Str)) = false := by decide) : PE X (.Name x pos) (tC (.int v)) := by
  obtain ⟨u, hm⟩ := h
  exact pe_glob hg hm ⟨_, rfl⟩ hd
theorem op_isnotBl : OpR X (compareOp .IsNot) (fun x y H Q => ∃ b : Bool, y = .bl b ∧ Q (.bl (!decide (x = .bl b))) H) := by
  intro pins s σ H x y v u Q I rx ry h
  obtain ⟨b, rfl, q⟩ := h
  cases (show u = Value.bool b from ry)
  have key : plainIs v (Value.bool b) = true ∧ (v = Value.bool b ↔ x = .bl b) := by
    cases x with
    | non => cases (show v = Value.none from rx); exact ⟨rfl, by constructor <;> intro z <;> cases z⟩
    | bl c => cases (show v = Value.bool c from rx); exact ⟨rfl, by constructor <;> intro z <;> cases z <;> rfl⟩
    | int i => obtain ⟨t, rfl⟩ := (show ∃ t, v = Value.int i t from rx); exact ⟨rfl, by constructor <;> intro z <;> cases z⟩
    | str i => obtain ⟨t, rfl⟩ := (show ∃ t, v = Value.str i t from rx); exact ⟨rfl, by constructor <;> intro z <;> cases z⟩
    | byt i => obtain ⟨t, rfl⟩ := (show ∃ t, v = Value.bytes i t from rx); exact ⟨rfl, by constructor <;> intro z <;> cases z⟩
    | flt i => obtain ⟨t, rfl⟩ := (show ∃ t, v = Value.float i t from rx); exact ⟨rfl, by constructor <;> intro z <;> cases z⟩
    | ref a => cases (show v = Value.ref a from rx); exact ⟨rfl, by constructor <;> intro z <;> cases z⟩
    | ty n => cases (show v = Value.type n from rx); exact ⟨rfl, by constructor <;> intro z <;> cases z⟩
  by_cases e : x = .bl b
  · have ev := key.2.mpr e
    subst ev
    exact wpAny_isNot_self rfl ⟨.bl false, H, I, rfl, by simpa [e] using q⟩
  · exact wpAny_isNot_other key.1 (fun z => e (key.2.mp z)) ⟨.bl true, H, I, rfl, by simpa [e] using q⟩
/-- repr of a flat value -/
def flatShown : V → Option Str
  | .non => some "None"
  | .bl b => some (if b then "True" else "False")
  | .int i => if i.natAbs.log2 < 1920 then some (toString i) else none
  | _ => none
theorem cr_repr : CallR X (.builtin "repr") (fun xs H Q => ∃ v z, xs = [v] ∧ flatShown v = some z ∧ Q (.str z) H) := by
  intro pins s σ H xs us Q I r h
  obtain ⟨v, z, rfl, hz, q⟩ := h
  obtain ⟨u, rfl, ru⟩ := vals1 r
  cases v with
  | non =>
    cases (show u = Value.none from ru)
    obtain rfl : ("None" : Str) = z := Option.some.inj hz
    exact PySem.P.repr_of_none ⟨.str _, H, I.tok _, ⟨_, rfl⟩, q⟩
  | bl b =>
    cases (show u = Value.bool b from ru)
    obtain rfl : (if b then "True" else "False" : Str) = z := Option.some.inj hz
    exact PySem.P.repr_of_bool ⟨.str _, H, I.tok _, ⟨_, rfl⟩, q⟩
  | int i =>
    obtain ⟨t, rfl⟩ := (show ∃ t, u = Value.int i t from ru)
    have hz2 : (if i.natAbs.log2 < 1920 then some (toString i : Str) else none) = some z := hz
    by_cases c : i.natAbs.log2 < 1920
    · rw [if_pos c] at hz2
      obtain rfl := Option.some.inj hz2
      exact PySem.P.repr_of_int c ⟨.str _, H, I.tok _, ⟨_, rfl⟩, q⟩
    · rw [if_neg c] at hz2
      cases hz2
  | _ => cases hz
/-- a power of any size that the model takes -/
def CPowW (i j : Int) : Prop := 1 < i ∧ 0 < j ∧ ∃ n : Nat, i.natAbs < 2 ^ n ∧ (n : Int) * j ≤ 134217728
theorem op_powW : OpR X (binaryOp .Pow) (rI CPowW fun i j => .int (i ^ j.toNat)) := opI fun i j t u s Q E hc q => by
  obtain ⟨h1, h2, n, h3, h4⟩ := hc
  have hb : ¬ Builtin.Int.intTooBig (((Builtin.Int.intBits i : Nat) : Int) * j) = true := by
    have e : bitsLine = 134217728 := by decide
    have b := PyProof.Rows.intBits_le h3
    have m : ((Builtin.Int.intBits i : Nat) : Int) * j ≤ (n : Int) * j := Int.mul_le_mul_of_nonneg_right (by omega) (by omega)
    unfold Builtin.Int.intTooBig
    rw [decide_eq_true_eq, e]
    omega
  refine PySem.AutoIntOps.pow_4 (by omega) (by simpa using (show ¬ j = 0 by omega)) (by simpa using (show ¬ i = 0 ∧ ¬ i = 1 by omega)) (by simpa using (show ¬ i = -1 by omega)) hb ?_
  exact q
/-- divmod by a positive number of at most 30 figures -/
theorem divp_small {i j : Int} (h : 0 < j) (h2 : j ≤ 1000000000000000000000000000000) : CDivP i j := by
  refine ⟨h, PyProof.noPylong_of_log2 ?_⟩
  have h3 : j.natAbs < 2 ^ 200 := Nat.lt_of_le_of_lt (show j.natAbs ≤ 1000000000000000000000000000000 by omega) (by decide)
  exact Nat.lt_of_lt_of_le (PySem.Flt.log2_lt_of (by decide) h3) (by decide)
end
/-! ### what an if's test says -/
theorem ifd {c A B : Prop} [Decidable c] (h1 : c → A) (h2 : ¬ c → B) : if decide c = true then A else B := by
  by_cases h : c
  · rw [decide_eq_true h, if_pos rfl]; exact h1 h
  · rw [decide_eq_false h, if_neg Bool.false_ne_true]; exact h2 h
theorem ifd_pos {c A B : Prop} [Decidable c] (h : c) (hA : A) : if decide c = true then A else B := by
  rw [decide_eq_true h, if_pos rfl]; exact hA
theorem ifd_neg {c A B : Prop} [Decidable c] (h : ¬ c) (hB : B) : if decide c = true then A else B := by
  rw [decide_eq_false h, if_neg Bool.false_ne_true]; exact hB
theorem ifn {c A B : Prop} [Decidable c] (h1 : ¬ c → A) (h2 : c → B) : if (!decide c) = true then A else B := by
  by_cases h : c
  · rw [decide_eq_true h]; exact h2 h
  · rw [decide_eq_false h]; exact h1 h
/-- all but p stands as it stood -/
def Kp (p : Addr) (H H' : Hp) : Prop := ∀ b o, b ≠ p → H b = some o → H' b = some o
theorem Kp.refl (p : Addr) (H : Hp) : Kp p H H := fun _ _ _ h => h
theorem Kp.trans {p : Addr} {H H1 H2 : Hp} (a : Kp p H H1) (b : Kp p H1 H2) : Kp p H H2 := fun c o n h => b c o n (a c o n h)
theorem Kp.set {p : Addr} {H H' : Hp} {o : HO} (a : Kp p H H') : Kp p H (L2.upd H' p o) := fun b u n h => by
  rw [upd_ne n]
  exact a b u n h
theorem Kp.new {p q : Addr} {H H' : Hp} {o : HO} (a : Kp p H H') (h : H' q = none) : Kp p H (upd H' q o) := fun b u n e => by
  have e2 := a b u n e
  rw [upd_ne (ne_of_none e2 h)]
  exact e2
end Sz
namespace Sz
open PySem PySem.Spec PyProof.Rows L2
/-! ### defs that show containers: nothing is being shown around their call -/
structure FnG (P : Program) (w : World) (K : PySem.W.Frag) (mg : Str → Option Value) (base : Heap) (k : Nat) (f : Addr) (fd : FuncData) (ps : List Str) (sp : Sp) : Prop where
  len : ∀ vs H Q E, sp vs H Q E → vs.length = ps.length
  run : ∀ (A : Around) (outer : List Env) (s : Shared) (H : Hp) (args : Args) (us : List Value) (vs : List V) (Q : VK) (E : XK), Room k A → A.guards = some [] → Env0 P w K mg base A outer s H →
    BindsTo s fd args (ps.zip us) → Vals vs us → sp vs H Q E → codeAny (model P w) A (.call (.ref f) args) (CR CX0 outer P w H s Q E) s
theorem FnG.of {P : Program} {w : World} {K : PySem.W.Frag} {mg : Str → Option Value} {base : Heap} {k : Nat} {f : Addr} {fd : FuncData} {ps : List Str} {sp : Sp} (F : FnOk P w K mg base CX0 k f fd ps sp) : FnG P w K mg base k f fd ps sp :=
  ⟨F.len, fun A outer s H args us vs Q E hr _ e0 hb r h => F.run A outer s H args us vs Q E hr e0 hb r h⟩
/-- from the body -/
theorem fnG_of {P : Program} {w : World} {K : PySem.W.Frag} {mg : Str → Option Value} {base : Heap} {k : Nat} {f : Addr} {x q : Str} {pr : Arguments} {bd : List Stmt} {sc : Scope} {dvs : List V} {kws : List (Str × V)} {fd : FuncData} {N ps : List Str} {sp : Sp}
    (F : FunD K x q pr bd sc dvs kws f fd) (S : FnScope N ps sc) (len : ∀ vs H Q E, sp vs H Q E → vs.length = ps.length)
    (hbody : ∀ (cdv : Value) (A : Around) (outer : List Env) (s : Shared) (H : Hp) (vs : List V) (Q : VK) (E : XK), Room k (A.deeper (envOfC q sc s.heap.objs.size f cdv)) → (A.deeper (envOfC q sc s.heap.objs.size f cdv)).guards = some [] → sp vs H Q E →
      ∃ t, PSs (cxOf CX0 P w K mg base N q sc f cdv A outer s H E).nox bd t ∧ t { nx := fun _ H' => Q .non H', rt := Q } (start N vs) H) : FnG P w K mg base (k + 1) f fd ps sp := by
  obtain ⟨c1, c2, c3, c4, c5, c6, c7, cdv, c9, c10, rfl, look, code, _, _⟩ := F.ex
  refine ⟨len, fun A outer s H args us vs Q E room gd e0 hbind rel want => ?_⟩
  have old : ∀ b o, base.get? b = some o → s.heap.get? b = some o := fun b o e => (e0.bs b o e).1
  have inK : K.In s.heap := e0.mod.kin.keeps old
  have kinds : ∀ y ∈ ps.zip us, sc.names.lookup y.1 = some .local ∨ (sc.names.lookup y.1 = some .cell ∧ ((cellsFrom (s.heap.objs.size + 1) sc.names []).lookup y.1).isSome = true) := by
    rintro ⟨n, v⟩ hy
    have hm : n ∈ ps := (List.of_mem_zip hy).1
    cases S.par n hm with
    | inl z => exact Or.inl z
    | inr z => exact Or.inr ⟨z, PySem.W.cellsFrom_some _ _ _ (.inl z)⟩
  obtain ⟨t, dt, rt⟩ := hbody cdv A outer s H vs Q E (room.deeper _) gd want
  have dt := dt.nox
  refine codeAny_call_function room.depth (inK _ _ look) rfl S.co S.gen rfl (PySem.W.codeRec_of inK code) ?_
  refine hbind _ _ _ _ (wpAny_newFunctionEnv_cells S.kind kinds ?_)
  rintro _ rfl s1 ic
  refine ⟨(e0.mod.nolimit.keeps old).keeps ic.toInCall.keep, codeAny_func ?_⟩
  refine wpAny_mono (dt.run [] s1 (start N vs) H _ (inv_start S room.hd e0 (len _ _ _ _ want) rel ic) rt) ?_ (fun _ _ z => z)
  intro fl s' hs
  cases fl with
  | ret u => exact let ⟨v, _, H', J, rv, qv⟩ := hs; ⟨v, H', J.os, J.bare, J.base, J.hok, rv, qv⟩
  | next => exact let ⟨_, H', J, qv⟩ := hs; ⟨.non, H', J.os, J.bare, J.base, J.hok, rfl, qv⟩
  | brk => exact let ⟨_, _, _, qv⟩ := hs; False.elim qv
  | cont => exact let ⟨_, _, _, qv⟩ := hs; False.elim qv
/-- the def named x keeps the promise sp where nothing is being shown -/
structure PromG (P : Program) (w : World) (K : PySem.W.Frag) (mg : Str → Option Value) (base : Heap) (k : Nat) (x : Str) (st : Stmt) (ps : List Str) (sp : Sp) : Prop where
  ex : ∃ f fd, FnG P w K mg base k f fd ps sp ∧ mg x = some (.ref f) ∧ FunD K x x (defArgs st) (defBody st) (defScope st) [] [] f fd ∧ Binds K fd ps []
section
variable {P : Program} {w : World} {K : PySem.W.Frag} {mg : Str → Option Value} {base : Heap}
theorem PromG.of {x : Str} {st : Stmt} {ps N : List Str} {sp : Sp} {k : Nat} (D : DefAt K mg x st) (S : FnScope N ps (defScope st)) (len : ∀ vs H Q E, sp vs H Q E → vs.length = ps.length)
    (hb : ∀ (kV doc pm : Value) (an : Option Addr) (cdv ct : Value) (us : List Value), us.length = ps.length → bindArgs (PySem.W.fnOf x x (defArgs st) (defBody st) (defScope st) .none kV doc pm an cdv ct) ⟨us, []⟩ = pure (ps.zip us))
    (hbody : ∀ (f : Addr) (cdv : Value) (A : Around) (outer : List Env) (s : Shared) (H : Hp) (vs : List V) (Q : VK) (E : XK), Room k (A.deeper (envOfC x (defScope st) s.heap.objs.size f cdv)) → (A.deeper (envOfC x (defScope st) s.heap.objs.size f cdv)).guards = some [] → sp vs H Q E →
      ∃ t, PSs (cxOf CX0 P w K mg base N x (defScope st) f cdv A outer s H E).nox (defBody st) t ∧ t { nx := fun _ H' => Q .non H', rt := Q } (start N vs) H) :
    PromG P w K mg base (k + 1) x st ps sp := by
  obtain ⟨f, fd, F, hm⟩ := D
  exact ⟨f, fd, fnG_of F S len (fun cdv A outer s H vs Q E hr hg hs => hbody f cdv A outer s H vs Q E hr hg hs), hm, F, F.bindsN hb⟩
theorem Prom.g {x : Str} {st : Stmt} {ps : List Str} {sp : Sp} {k : Nat} (G : Prom P w K mg base CX0 k x st ps sp) : PromG P w K mg base k x st ps sp := by
  obtain ⟨f, fd, F, r⟩ := G.ex
  exact ⟨f, fd, FnG.of F, r⟩
end
section
variable {X : Cx} {k : Nat} {x : Str} {st : Stmt} {ps : List Str} {sp : Sp} {e : Expr} {es : List Expr} {t : TA} {p pos : Pos}
/-- f(..) of such a def -/
theorem pe_callG (G : PromG X.prog X.w X.K X.mg X.base k x st ps sp) (gd : X.A.guards = some []) (hr : Room k X.A) (hg : Gl X x) (ha : PA X (e :: es) t)
    (hdb : (x == ("__debug__" : Str)) = false := by decide) (he : starEach (e :: es) X.env = (false, eval e X.env) :: starEach es X.env := by rfl) (hpl : (backTo pos (starEach es X.env)).any (·.1) = false := by rfl) :
    PE X (.Call (.Name x p) (e :: es) [] pos) (tCall sp [] E0 t) := by
  obtain ⟨f, fd, F, hm, D, hb⟩ := G.ex
  constructor
  intro pins s σ H Q I h
  refine wpAny_Call_Name_kw (ld_glob I hg hm (PySem.W.callWith_K (h₀ := X.base) I.ok.mod.kin D.kp (thn (ha.run pos pins s σ H _ I h) ?_) he hpl) hdb)
  rintro us s1 ⟨vs, H1, I1, rel, want⟩
  refine ⟨I1.kIn, wpAny_call (codeAny_mono (F.run X.A X.stack s1 H1 ⟨us, []⟩ (us ++ []) (vs ++ []) Q E0 hr gd I1.env0 (hb s1 us I1.kIn ?_) (rel.append .nil) want) ?_)⟩
  · rw [← (rel.append Paired.nil).length]
    exact F.len _ _ _ _ want
  · intro r s' hq
    cases r with
    | error z => exact False.elim hq
    | ok fl =>
      cases fl with
      | ret u => exact I1.after hq
      | next => exact False.elim hq
      | brk => exact False.elim hq
      | cont => exact False.elim hq
/-- repr of data at any depth -/
theorem cr_reprD (gd : X.A.guards = some []) (hu : X.A.units + 64 < cLine) : CallR X (.builtin "repr") (fun xs H Q => ∃ (a : Addr) (d : PyData), xs = [.ref a] ∧ Dp X.K H (.ref a) d ∧ d.showable = true ∧ d.hasDict = false ∧ d.depth ≤ 40 ∧ d.shown.length ≤ sizeLine ∧ Q (.str d.shown) H) := by
  intro pins s σ H xs us Q I r h
  obtain ⟨a, d, rfl, hd, h1, h2, h3, h4, q⟩ := h
  obtain ⟨u, rfl, ru⟩ := vals1 r
  obtain ⟨as, rd⟩ := Dp.reads I d _ u hd ru
  cases (show u = Value.ref a from ru)
  refine repr_of_reads' rd h1 (PyData.noDict_hsm h2) gd (by omega) (fun _ _ z => z) (fun h' tok tk kept => ?_) h4
  exact ⟨.str d.shown, H, I.kept (t' := tk) kept, ⟨_, rfl⟩, q⟩
end
/-! ### the law's call -/
section
variable {P : Program} {w : World} {K : PySem.W.Frag} {mg mb : Str → Option Value} {k : Nat} {fa a : Addr} {fd : FuncData} {x : Str} {sp : Sp} {st : Shared} {vs : List Value} {ns : List Int}
/-- the script as the law finds it -/
def scriptHp (K : PySem.W.Frag) (a : Addr) (vs : List Value) (ns : List Int) : Hp := fun b => if b = a ∧ K.lookup a = none then some (.frz { cls := .type "list", data := .seq vs.toArray } (.lst (ns.map V.int))) else none
theorem scriptHp_some {b : Addr} {u : HO} (h : scriptHp K a vs ns b = some u) : b = a ∧ K.lookup a = none ∧ u = .frz { cls := .type "list", data := .seq vs.toArray } (.lst (ns.map V.int)) := by
  unfold scriptHp at h
  by_cases c : b = a ∧ K.lookup a = none
  · rw [if_pos c] at h
    exact ⟨c.1, c.2, (Option.some.inj h).symm⟩
  · rw [if_neg c] at h
    cases h
theorem scriptHp_none {b : Addr} (h : b ≠ a) : scriptHp K a vs ns b = none := if_neg fun z => h z.1
theorem law_callG (KX : K.In st.heap) (gl : st.heap.Ns mainGlobals mg) (bl : st.heap.Ns builtinsNs mb) (bb : ∀ y : Str, y ≠ "__name__" → mb y = bootBuiltins y) (nl : st.heap.NoLimit) (gn : st.gens = #[])
    (ha : st.heap.get? a = some { cls := .type "list", data := .seq vs.toArray }) (hi : IntsAre vs ns) (hl : ns.length ≤ sizeLine) (room : Room k callerA)
    (F : ∀ base : Heap, K.In base → base.Ns mainGlobals mg → FnG P w K mg base k fa fd [x] sp) (bind1 : ∀ (s : Shared) (u : Value), BindsTo s fd ⟨[u], []⟩ [(x, u)])
    (want : ∀ H : Hp, SqL K H a (ns.map V.int) → sp [.ref a] H (fun v _ => v = .bl true) fun _ _ _ => False) :
    codeAny (model P w) callerA (.call (.ref fa) ⟨[.ref a], []⟩) (fun r s' => r = .ok (.ret (.bool true)) ∧ OldK st.heap s'.heap ∧ s'.os = st.os ∧ AllBare s'.gens) st := by
  have rel : Vals (ns.map V.int) vs := vals_ints hi
  have len : (ns.map V.int).length ≤ sizeLine := by rw [List.length_map]; exact hl
  generalize hH : scriptHp K a vs ns = H
  have sm : ∀ {b u}, H b = some u → b = a ∧ K.lookup a = none ∧ u = .frz { cls := .type "list", data := .seq vs.toArray } (.lst (ns.map V.int)) := fun {b u} e => by
    rw [← hH] at e
    exact scriptHp_some e
  have ok : HOk P w H st.heap := fun b u e => by
    obtain ⟨rfl, _, rfl⟩ := sm e
    exact ⟨ha, len, vs, _, rel, ha⟩
  have sq : SqL K H a (ns.map V.int) := by
    cases lk : K.lookup a with
    | none => exact Or.inl (Or.inr ⟨_, by rw [← hH]; exact if_pos ⟨rfl, lk⟩⟩)
    | some o =>
      have e := (KX a o lk).symm.trans ha
      cases e
      exact Or.inr ⟨_, vs.toArray, _, lk, rfl, rfl, rfl, by rw [List.size_toArray, ← rel.length]; exact len, by simpa using rel⟩
  have hid : ∀ {b o}, st.heap.get? b = some o → H b = none → (hidT st.heap H).get? b = some o := fun e n => hidT_get e n
  have free : ∀ {b : Addr} {m}, st.heap.Ns b m → H b = none := fun {b m} hn => by
    cases e : H b with
    | none => rfl
    | some u =>
      obtain ⟨rfl, _, _⟩ := sm e
      obtain ⟨o, es, ep, e1, e2, _⟩ := hn
      have z := ha.symm.trans e1
      cases z
      cases e2
  have ns1 : ∀ {b : Addr} {m}, st.heap.Ns b m → (hidT st.heap H).Ns b m := fun {b m} hn => by
    have fr := free hn
    obtain ⟨o, es, ep, e1, e2⟩ := hn
    exact ⟨o, es, ep, hid e1 fr, e2⟩
  have inB : K.In (hidT st.heap H) := fun b o e => hid (KX b o e) (by
    cases z : H b with
    | none => rfl
    | some u =>
      obtain ⟨rfl, z2, _⟩ := sm z
      rw [z2] at e
      cases e)
  have md : Mod K mg (hidT st.heap H) := ⟨inB, ns1 gl, ⟨mb, ns1 bl, bb⟩, let ⟨mc, c1, c2⟩ := nl; ⟨mc, ns1 c1, c2⟩⟩
  have env : Env0 P w K mg (hidT st.heap H) callerA [] st H := ⟨rfl, md, fun _ _ e => of_hidT e, Nat.le_of_eq (hidT_size _ _), trivial, fun b z => absurd (show b ∈ ([] : List Addr) from z) (by simp), ok, .of_eq gn⟩
  refine codeAny_mono ((F _ inB (ns1 gl)).run callerA [] st H ⟨[.ref a], []⟩ [.ref a] [.ref a] _ _ room rfl env (bind1 st (.ref a)) (.cons rfl .nil) (want H sq)) fun r s' h => ?_
  cases r with
  | error z => exact False.elim h
  | ok fl =>
    cases fl with
    | next => exact False.elim h
    | brk => exact False.elim h
    | cont => exact False.elim h
    | ret u =>
      obtain ⟨v, H', os, bare, un, ok', ru, qv⟩ := h
      cases (show v = .bl true from qv)
      cases (show u = Value.bool true from ru)
      refine ⟨rfl, OldK.of_keep ?_, os, bare⟩
      intro b o e
      cases z : H b with
      | none => exact un.keep b o e z (by intro y; exact absurd (show b ∈ ([] : List Addr) from y) (by simp)) (by simp)
      | some t =>
        obtain ⟨rfl, _, rfl⟩ := sm z
        have e2 := (ok' _ _ (un.frzs _ _ _ z)).1
        have e3 := ha.symm.trans e
        cases e3
        exact e2
end
/-- a law whose def is a PromG -/
theorem walk_ofG {l : PySem.W.OpenLaw} {n k : Nat} {q : Program} {loose : List Str} {XP : (Str → Option Value) → Heap → Prop} {YP : World → Heap → Prop} {d : DefRec} {x : Str}
    (hn : l.most = some n) (hn2 : n ≤ sizeLine) (hdf : d.params.defaults = []) (room : Room k callerA)
    (F : ∀ (w : World) (mg : Str → Option Value) (fa : Addr) (h : Heap), YP w h → h.Ns mainGlobals mg → mg d.name = some (.ref fa) →
      ∃ (K : PySem.W.Frag) (fd : FuncData) (sp : Sp), K.In h ∧ (∀ (s : Shared) (u : Value), BindsTo s fd ⟨[u], []⟩ [(x, u)]) ∧
        (∀ (H : Hp) (a : Addr) (ns : List Int), ns.length ≤ n → (∀ z ∈ ns, Builtin.Int.intBits z ≤ 1048576) → SqL K H a (ns.map V.int) → sp [.ref a] H (fun v _ => v = .bl true) fun _ _ _ => False) ∧
        ∀ base : Heap, K.In base → base.Ns mainGlobals mg → FnG l.prog w K mg base k fa fd [x] sp) :
    PySem.W.WalkO q loose XP YP l.row.toRowW d [] (fun f vs => PySem.call f vs) := by
  refine Att.attach_callB hn hdf fun w sA sB mg mb fa o pm cd doc a vs ns G Y ho hd hcd hmg hobj hints hlen hbits hg => ?_
  obtain ⟨K, fd, sp, KX, b1, want, hF⟩ := F w mg fa _ Y G.T.g hmg
  exact law_callG KX G.T.g G.T.b G.T.builtins G.T.nolimit hg hobj hints (Nat.le_trans hlen hn2) room hF b1 (fun H hS => want H a ns hlen hbits hS)
end Sz
namespace Sz
/-! ### powers -/
theorem pow_pos {b : Int} (hb : 1 ≤ b) : ∀ j : Nat, 1 ≤ b ^ j
  | 0 => by rw [Int.pow_zero]; exact Int.le_refl 1
  | j + 1 => by
    rw [Int.pow_succ]
    have ih := pow_pos hb j
    have h := Int.mul_le_mul ih hb (by omega) (by omega)
    omega
theorem pow_one (b : Int) : b ^ (0 + 1) = b := by rw [Int.pow_succ, Int.pow_zero, Int.one_mul]
theorem pow_step {b : Int} (hb : 1 ≤ b) (j : Nat) : b ^ j ≤ b ^ (j + 1) := by
  rw [Int.pow_succ]
  have h := Int.mul_le_mul_of_nonneg_left hb (show 0 ≤ b ^ j by have := pow_pos hb j; omega)
  omega
theorem pow_mono {b : Int} (hb : 1 ≤ b) {i : Nat} : ∀ {j : Nat}, i ≤ j → b ^ i ≤ b ^ j
  | 0, h => by
    have e : i = 0 := by omega
    rw [e]
    exact Int.le_refl _
  | j + 1, h => by
    by_cases e : i = j + 1
    · rw [e]
      exact Int.le_refl _
    · exact Int.le_trans (pow_mono hb (j := j) (by omega)) (pow_step hb j)
theorem pow_lt {b : Int} (hb : 2 ≤ b) (j : Nat) : b ^ j < b ^ (j + 1) := by
  rw [Int.pow_succ]
  have h1 := pow_pos (show 1 ≤ b by omega) j
  have h := Int.mul_le_mul_of_nonneg_left hb (show 0 ≤ b ^ j by omega)
  omega
/-- an integer is below the power with its own number -/
theorem lt_pow {b : Int} (hb : 2 ≤ b) : ∀ j : Nat, (j : Int) < b ^ j
  | 0 => by rw [Int.pow_zero]; decide
  | j + 1 => by
    have h1 := lt_pow hb j
    have h2 := pow_lt hb j
    omega
/-! ### figures -/
/-- k is the number of figures of n in the base b -/
def IsF (b n k : Int) : Prop := ∃ j : Nat, k = (j : Int) + 1 ∧ n < b ^ (j + 1) ∧ (j = 0 ∨ b ^ j ≤ n)
theorem isF_le {b n m k l : Int} (hb : 2 ≤ b) (h : n ≤ m) (hk : IsF b n k) (hl : IsF b m l) : k ≤ l := by
  obtain ⟨i, rfl, h1, h2⟩ := hk
  obtain ⟨j, rfl, h3, h4⟩ := hl
  by_cases c : i ≤ j
  · omega
  · rcases h2 with h2 | h2
    · omega
    · have h5 := pow_mono (show 1 ≤ b by omega) (show j + 1 ≤ i by omega)
      omega
theorem isF_eq {b n k l : Int} (hb : 2 ≤ b) (hk : IsF b n k) (hl : IsF b n l) : k = l :=
  Int.le_antisymm (isF_le hb (Int.le_refl n) hk hl) (isF_le hb (Int.le_refl n) hl hk)
theorem isF_pos {b n k : Int} (h : IsF b n k) : 1 ≤ k := by
  obtain ⟨j, rfl, _⟩ := h
  omega
/-- there is such a number -/
theorem isF_ex {b : Int} (hb : 2 ≤ b) (n : Int) : ∃ k, IsF b n k := by
  have key : ∀ m : Nat, ∀ n : Int, n < b ^ (m + 1) → ∃ k, IsF b n k := by
    intro m
    induction m with
    | zero => exact fun n h => ⟨1, 0, rfl, h, .inl rfl⟩
    | succ m ih =>
      intro n h
      by_cases c : n < b ^ (m + 1)
      · exact ih n c
      · exact ⟨(m + 1 : Nat) + 1, m + 1, rfl, h, .inr (by omega)⟩
  refine key n.toNat n ?_
  have h1 := lt_pow hb (n.toNat + 1)
  omega
/-- a bound for the figures -/
theorem isF_bound {b n k : Int} (hb : 2 ≤ b) (m : Nat) (hn : n < 2 ^ m) (h : IsF b n k) : k ≤ (m : Int) + 1 := by
  obtain ⟨j, rfl, h1, h2⟩ := h
  rcases h2 with h2 | h2
  · omega
  · by_cases c : j ≤ m
    · omega
    · exfalso
      have h3 : (2 : Int) ^ j ≤ b ^ j := by
        clear h1 h2 c
        induction j with
        | zero => rw [Int.pow_zero, Int.pow_zero]; exact Int.le_refl 1
        | succ j ih =>
          rw [Int.pow_succ, Int.pow_succ]
          exact Int.mul_le_mul ih hb (by decide) (by have := pow_pos (show 1 ≤ b by omega) j; omega)
      have h4 := pow_mono (show (1 : Int) ≤ 2 by decide) (show m ≤ j by omega)
      omega
end Sz
namespace Sz
/-! ### totals that count their own figures -/
theorem isF_upper {b x g : Int} (hb : 2 ≤ b) {m : Nat} (h : x < b ^ (m + 1)) (hg : IsF b x g) : g ≤ (m : Int) + 1 := by
  obtain ⟨i, rfl, h1, h2⟩ := hg
  by_cases c : i ≤ m
  · omega
  · rcases h2 with h2 | h2
    · omega
    · have := pow_mono (show 1 ≤ b by omega) (show m + 1 ≤ i by omega)
      omega
/-- adding its figures to a number makes one figure more at most -/
theorem fig_grow {b n f g : Int} (hb : 2 ≤ b) (hn : 0 ≤ n) (hf : IsF b n f) (hg : IsF b (n + f) g) : g = f ∨ g = f + 1 := by
  have h1 := isF_le hb (show n ≤ n + f by have := isF_pos hf; omega) hf hg
  obtain ⟨j, rfl, h2, h3⟩ := hf
  have h4 := lt_pow hb (j + 1)
  have h5 : b ^ (j + 1 + 1) = b ^ (j + 1) * b := Int.pow_succ b (j + 1)
  have h6 := Int.mul_le_mul_of_nonneg_left hb (show 0 ≤ b ^ (j + 1) by omega)
  have h7 := isF_upper (m := j + 1) hb (show n + ((j : Int) + 1) < b ^ (j + 1 + 1) by omega) hg
  omega
/-- and then this is the number of figures -/
theorem fig_next {b n f : Int} (hb : 2 ≤ b) (hn : 0 ≤ n) (hf : IsF b n f) (hg : IsF b (n + f) (f + 1)) : IsF b (n + f + 1) (f + 1) := by
  obtain ⟨j, rfl, h2, h3⟩ := hf
  obtain ⟨i, e, h4, h5⟩ := hg
  have e2 : i = j + 1 := by omega
  subst e2
  have h6 := lt_pow hb (j + 1)
  have h7 : b ^ (j + 1 + 1) = b ^ (j + 1) * b := Int.pow_succ b (j + 1)
  have h8 := Int.mul_le_mul_of_nonneg_left hb (show 0 ≤ b ^ (j + 1) by omega)
  refine ⟨j + 1, by omega, by omega, Or.inr ?_⟩
  rcases h5 with h5 | h5
  · omega
  · omega
/-- s is a total of N -/
def Tot (b N s : Int) : Prop := IsF b s (s - N)
structure IsTot (b N s : Int) : Prop where
  tot : Tot b N s
  least : ∀ t, Tot b N t → s ≤ t
theorem isTot_pos {b N s : Int} (h : Tot b N s) : N + 1 ≤ s := by
  have := isF_pos h
  omega
theorem isTot_first {b n f : Int} (hb : 2 ≤ b) (hf : IsF b n f) (hg : IsF b (n + f) f) : IsTot b n (n + f) := by
  refine ⟨?_, fun t ht => ?_⟩
  · have e : n + f - n = f := by omega
    show IsF b (n + f) (n + f - n)
    rw [e]
    exact hg
  · have h1 := isTot_pos ht
    have h2 := isF_le hb (show n ≤ t by omega) hf ht
    omega
theorem isTot_second {b n f : Int} (hb : 2 ≤ b) (hn : 0 ≤ n) (hf : IsF b n f) (hg : IsF b (n + f) (f + 1)) : IsTot b n (n + f + 1) := by
  refine ⟨?_, fun t ht => ?_⟩
  · have e : n + f + 1 - n = f + 1 := by omega
    show IsF b (n + f + 1) (n + f + 1 - n)
    rw [e]
    exact fig_next hb hn hf hg
  · have h1 := isTot_pos ht
    have h2 := isF_le hb (show n ≤ t by omega) hf ht
    by_cases c : t = n + f
    · subst c
      have ht2 : IsF b (n + f) (n + f - n) := ht
      have e : n + f - n = f := by omega
      rw [e] at ht2
      have := isF_eq hb ht2 hg
      omega
    · omega
theorem isTot_eq {b N s t : Int} (h : IsTot b N s) (h2 : IsTot b N t) : s = t := Int.le_antisymm (h.least t h2.tot) (h2.least s h.tot)
/-- two totals lie beside one another -/
theorem tot_near {b N s t : Int} (hb : 2 ≤ b) (hN : 0 ≤ N) (h : Tot b N s) (h2 : Tot b N t) (hst : s ≤ t) : t ≤ s + 1 := by
  obtain ⟨i, e1, h3, h4⟩ := h
  obtain ⟨j, e2, h5, h6⟩ := h2
  by_cases c : t ≤ s + 1
  · exact c
  · exfalso
    have hj : b ^ j ≤ t := by
      rcases h6 with h6 | h6
      · omega
      · exact h6
    obtain ⟨m, hm⟩ : ∃ m : Nat, j = i + 1 + (m + 1) := ⟨j - i - 2, by omega⟩
    have e3 : b ^ j = b ^ (i + 1) * b ^ (m + 1) := by rw [hm, Int.pow_add]
    have p1 := pow_pos (show 1 ≤ b by omega) (i + 1)
    have p0 : 2 ≤ b ^ (i + 1) := by
      have := pow_mono (show 1 ≤ b by omega) (show 0 + 1 ≤ i + 1 by omega)
      rw [pow_one] at this
      omega
    have l1 := lt_pow hb (m + 1)
    have l2 := Int.mul_le_mul_of_nonneg_left (show ((m + 1 : Nat) : Int) + 1 ≤ b ^ (m + 1) by omega) (show 0 ≤ b ^ (i + 1) by omega)
    have l3 : b ^ (i + 1) * (((m + 1 : Nat) : Int) + 1) = b ^ (i + 1) * ((m + 1 : Nat) : Int) + b ^ (i + 1) := by rw [Int.mul_add, Int.mul_one]
    have l4 := Int.mul_le_mul_of_nonneg_right p0 (show 0 ≤ ((m + 1 : Nat) : Int) by omega)
    omega
/-- whether the next integer is a total, too -/
theorem tot_two {b N s g h : Int} (hb : 2 ≤ b) (ht : Tot b N s) (hg : IsF b s g) (hh : IsF b (s + 1) h) : (h > g ↔ Tot b N (s + 1)) := by
  have e1 : g = s - N := isF_eq hb hg ht
  constructor
  · intro c
    have h1 : h = g + 1 := by
      obtain ⟨j, rfl, h2, h3⟩ := hg
      have h4 := isF_upper (m := j + 1) hb (show s + 1 < b ^ (j + 1 + 1) by have := pow_lt hb (j + 1); omega) hh
      omega
    show IsF b (s + 1) (s + 1 - N)
    have e2 : s + 1 - N = h := by omega
    rw [e2]
    exact hh
  · intro c
    have e2 : h = s + 1 - N := isF_eq hb hh c
    omega
theorem isTot_ex {b n : Int} (hb : 2 ≤ b) (hn : 0 ≤ n) : ∃ s, IsTot b n s := by
  obtain ⟨f, hf⟩ := isF_ex hb n
  obtain ⟨g, hg⟩ := isF_ex hb (n + f)
  rcases fig_grow hb hn hf hg with e | e
  · exact ⟨_, isTot_first hb hf (by rw [← e]; rw [e] at hg ⊢; exact hg)⟩
  · exact ⟨_, isTot_second hb hn hf (by rw [← e]; exact hg)⟩
theorem pow_add_le {b : Int} (hb : 2 ≤ b) (j d : Nat) : b ^ j + d ≤ b ^ (j + d) := by
  induction d with
  | zero => simp
  | succ d ih =>
    have := pow_lt hb (j + d)
    have e : j + (d + 1) = j + d + 1 := by omega
    rw [e]
    omega
theorem two_mul_le {b : Int} (hb : 2 ≤ b) : ∀ j : Nat, 2 * (j : Int) ≤ b ^ j + 1
  | 0 => by simp
  | 1 => by rw [show (1 : Nat) = 0 + 1 from rfl, pow_one]; omega
  | j + 2 => by
    have h1 := two_mul_le hb (j + 1)
    have h2 : b ^ (j + 2) = b ^ (j + 1) * b := Int.pow_succ b (j + 1)
    have h3 := pow_mono (show 1 ≤ b by omega) (show 0 + 1 ≤ j + 1 by omega)
    rw [pow_one] at h3
    have h4 := Int.mul_le_mul_of_nonneg_left hb (show 0 ≤ b ^ (j + 1) by omega)
    omega
/-- the totals found ahead of the number k of figures -/
def totA (N s : Int) (two : Bool) (k : Int) : List Int := if k ≤ s - N then [] else if k = s - N + 1 ∨ two = false then [s] else [s, s + 1]
theorem totA_start {b N s : Int} {two : Bool} (h : IsTot b N s) : totA N s two 1 = [] := if_pos (by have := isTot_pos h.tot; omega)
/-- the one with k figures is a total -/
theorem totA_yes {b N s k : Int} {two : Bool} (hb : 2 ≤ b) (hN : 0 ≤ N) (h : IsTot b N s) (h2 : two = true ↔ Tot b N (s + 1)) (hk : Tot b N (N + k)) : totA N s two (k + 1) = totA N s two k ++ [N + k] := by
  have a := h.least _ hk
  have c := tot_near hb hN h.tot hk a
  by_cases e : N + k = s
  · have e1 : totA N s two k = [] := if_pos (by omega)
    have e2 : totA N s two (k + 1) = [s] := by
      unfold totA
      rw [if_neg (by omega), if_pos (Or.inl (by omega))]
    rw [e1, e2, e]
    rfl
  · have e0 : N + k = s + 1 := by omega
    have ht : two = true := h2.mpr (by rw [← e0]; exact hk)
    have e1 : totA N s two k = [s] := by
      unfold totA
      rw [if_neg (by omega), if_pos (Or.inl (by omega))]
    have e2 : totA N s two (k + 1) = [s, s + 1] := by
      unfold totA
      rw [if_neg (by omega), if_neg (by rw [ht]; simp; omega)]
    rw [e1, e2, e0]
    rfl
theorem totA_no {b N s k : Int} {two : Bool} (h : IsTot b N s) (h2 : two = true ↔ Tot b N (s + 1)) (hk : ¬ Tot b N (N + k)) : totA N s two (k + 1) = totA N s two k := by
  have e : N + k ≠ s := fun z => hk (by rw [z]; exact h.tot)
  unfold totA
  by_cases c : k ≤ s - N
  · rw [if_pos c, if_pos (by omega)]
  · rw [if_neg c, if_neg (by omega)]
    by_cases d : k = s - N + 1
    · have d0 : N + k = s + 1 := by omega
      have ht : two = false := by
        cases q : two with
        | false => rfl
        | true => exact absurd (by rw [d0]; exact h2.mp q) hk
      rw [if_pos (Or.inr ht), if_pos (Or.inr ht)]
    · by_cases ht : two = false
      · rw [if_pos (Or.inr ht), if_pos (Or.inr ht)]
      · rw [if_neg (fun z => z.elim (by omega) ht), if_neg (fun z => z.elim (by omega) ht)]
theorem totA_end {b N s : Int} {j : Nat} {two : Bool} (hb : 2 ≤ b) (hN : 0 ≤ N) (h : IsTot b N s) (h2 : two = true ↔ Tot b N (s + 1)) (hj : ¬ b ^ j ≤ N + ((j : Int) + 1)) : totA N s two ((j : Int) + 1) = if two then [s, s + 1] else [s] := by
  have far : ∀ t, Tot b N t → t - N < (j : Int) + 1 := fun t ht => by
    obtain ⟨i, e, h3, h4⟩ := ht
    by_cases c : i < j
    · omega
    · exfalso
      obtain ⟨d, hd⟩ : ∃ d, i = j + d := ⟨i - j, by omega⟩
      have h5 := pow_add_le hb j d
      rw [← hd] at h5
      rcases h4 with h4 | h4
      · have e0 : j = 0 := by omega
        rw [e0] at hj h5
        have : N + 1 ≤ t := by omega
        have e1 : d = 0 := by omega
        rw [e1] at h5
        simp at hj h5
        omega
      · omega
  have f1 := far s h.tot
  unfold totA
  rw [if_neg (by omega)]
  cases ht : two with
  | false => simp
  | true =>
    have f2 := far _ (h2.mp ht)
    rw [if_neg (by simp; omega)]
    rfl
/-- a total by its power -/
theorem tot_iff {b N : Int} {j : Nat} (hN : 0 ≤ N) (hj : b ^ j ≤ N + ((j : Int) + 1)) : Tot b N (N + ((j : Int) + 1)) ↔ N + ((j : Int) + 1) < b ^ (j + 1) := by
  have e : N + ((j : Int) + 1) - N = (j : Int) + 1 := by omega
  constructor
  · rintro ⟨i, e1, h1, _⟩
    have : i = j := by omega
    rw [this] at h1
    exact h1
  · intro h
    exact ⟨j, e, h, Or.inr hj⟩
end Sz
namespace Sz
/-! ### lengths with two totals -/
/-- the length whose totals are the power less one and the power -/
def dlen (b c : Int) (j : Nat) : Int := b ^ j - 1 - (j : Int) - c
theorem pow_ge2 {b : Int} (hb : 2 ≤ b) {j : Nat} (hj : 1 ≤ j) : 2 ≤ b ^ j := by
  have h := pow_mono (show 1 ≤ b by omega) (show 0 + 1 ≤ j by omega)
  rw [pow_one] at h
  omega
theorem pow_dbl {b : Int} (hb : 2 ≤ b) (j : Nat) : 2 * b ^ j ≤ b ^ (j + 1) := by
  rw [Int.pow_succ]
  have h := Int.mul_le_mul_of_nonneg_left hb (show 0 ≤ b ^ j by have := pow_pos (show 1 ≤ b by omega) j; omega)
  omega
theorem dlen_lt {b c : Int} (hb : 2 ≤ b) {j : Nat} (hj : 1 ≤ j) : dlen b c j < dlen b c (j + 1) := by
  have h1 := pow_dbl hb j
  have h2 := pow_ge2 hb hj
  unfold dlen
  omega
theorem dlen_mono {b c : Int} (hb : 2 ≤ b) {i : Nat} (hi : 1 ≤ i) : ∀ {j : Nat}, i ≤ j → dlen b c i ≤ dlen b c j
  | 0, h => by omega
  | j + 1, h => by
    by_cases e : i = j + 1
    · rw [e]
      exact Int.le_refl _
    · exact Int.le_trans (dlen_mono hb hi (j := j) (by omega)) (Int.le_of_lt (dlen_lt hb (by omega)))
/-- the first number of figures with such a length -/
structure IsJ (b c : Int) (j : Nat) : Prop where
  pos : 1 ≤ j
  ok : 0 ≤ dlen b c j
  first : ∀ i : Nat, 1 ≤ i → i < j → dlen b c i < 0
theorem isJ_ex {b c : Int} (hb : 2 ≤ b) (hc : 0 ≤ c) : ∃ j, IsJ b c j := by
  have key : ∀ n : Nat, (∃ j, IsJ b c j) ∨ ∀ i : Nat, 1 ≤ i → i < n → dlen b c i < 0 := by
    intro n
    induction n with
    | zero => exact Or.inr fun i _ h => by omega
    | succ n ih =>
      rcases ih with h | h
      · exact Or.inl h
      · by_cases hn : 1 ≤ n
        · by_cases d : 0 ≤ dlen b c n
          · exact Or.inl ⟨n, hn, d, h⟩
          · refine Or.inr fun i h1 h2 => ?_
            by_cases e : i = n
            · rw [e]
              omega
            · exact h i h1 (by omega)
        · exact Or.inr fun i h1 h2 => by omega
  rcases key (c.toNat + 3) with h | h
  · exact h
  · have h1 := h (c.toNat + 2) (by omega) (by omega)
    have h2 := two_mul_le hb (c.toNat + 2)
    unfold dlen at h1
    omega
theorem isJ_eq {b c : Int} {i j : Nat} (h : IsJ b c i) (h2 : IsJ b c j) : i = j := by
  by_cases c1 : i < j
  · have := h2.first i h.pos c1
    have := h.ok
    omega
  · by_cases c2 : j < i
    · have := h.first j h2.pos c2
      have := h2.ok
      omega
    · omega
theorem isJ_iff {b c : Int} {j i : Nat} (hb : 2 ≤ b) (h : IsJ b c j) (hi : 1 ≤ i) : 0 ≤ dlen b c i ↔ j ≤ i := by
  constructor
  · intro d
    by_cases e : j ≤ i
    · exact e
    · have := h.first i hi (by omega)
      omega
  · intro e
    exact Int.le_trans h.ok (dlen_mono hb h.pos e)
/-- it lies near -/
theorem isJ_near {b c : Int} {j : Nat} (hb : 2 ≤ b) (h : IsJ b c j) : (j : Int) ≤ c + 3 ∨ j = 1 := by
  by_cases e : j = 1
  · exact Or.inr e
  · left
    have := h.pos
    have h1 := h.first (j - 1) (by omega) (by omega)
    have h2 := two_mul_le hb (j - 1)
    unfold dlen at h1
    omega
/-- all such lengths up to a number of figures -/
def duel (b c : Int) : Nat → List Int
  | 0 => []
  | j + 1 => if 0 ≤ dlen b c (j + 1) then duel b c j ++ [dlen b c (j + 1)] else duel b c j
theorem duel_eq {b c : Int} {j : Nat} (hb : 2 ≤ b) (h : IsJ b c j) : ∀ n : Nat, duel b c n = (List.range (n + 1 - j)).map fun i => dlen b c (j + i)
  | 0 => by
    have := h.pos
    rw [show 0 + 1 - j = 0 by omega]
    rfl
  | n + 1 => by
    have ih := duel_eq hb h n
    have hi := isJ_iff hb h (show 1 ≤ n + 1 by omega)
    by_cases d : j ≤ n + 1
    · have e : n + 1 + 1 - j = (n + 1 - j) + 1 := by omega
      show (if 0 ≤ dlen b c (n + 1) then duel b c n ++ [dlen b c (n + 1)] else duel b c n) = _
      rw [if_pos (hi.mpr d), ih, e, List.range_succ, List.map_append]
      have e2 : j + (n + 1 - j) = n + 1 := by omega
      show _ = _ ++ [dlen b c (j + (n + 1 - j))]
      rw [e2]
    · have e : n + 1 + 1 - j = 0 := by omega
      have e2 : n + 1 - j = 0 := by omega
      show (if 0 ≤ dlen b c (n + 1) then duel b c n ++ [dlen b c (n + 1)] else duel b c n) = _
      rw [if_neg (fun z => d (hi.mp z)), ih, e, e2]
theorem duel_len (b c : Int) : ∀ n : Nat, (duel b c n).length ≤ n
  | 0 => Nat.le_refl _
  | n + 1 => by
    have ih := duel_len b c n
    unfold duel
    split
    · rw [List.length_append]
      simp only [List.length_singleton]
      omega
    · omega
end Sz
namespace Sz
open PySem PySem.Spec PyProof.Rows L2
def top (i : Nat) : Stmt := PySem.Challenge.pw_sizestacks_k64_doubled_by_looking.main.body.getD i (.Pass ⟨0, 0, 0, 0⟩)
abbrev s_is_integer : Stmt := top 11
theorem sc_is_integer : FnScope ["value"] ["value"] (defScope s_is_integer) := ⟨rfl, rfl, rfl, by decide +kernel, rfl, by decide +kernel, by decide +kernel⟩
abbrev s_is_between : Stmt := top 12
theorem sc_is_between : FnScope ["value", "least", "most"] ["value", "least", "most"] (defScope s_is_between) := ⟨rfl, rfl, rfl, by decide +kernel, rfl, by decide +kernel, by decide +kernel⟩
abbrev s_check_base : Stmt := top 13
theorem sc_check_base : FnScope ["value"] ["value"] (defScope s_check_base) := ⟨rfl, rfl, rfl, by decide +kernel, rfl, by decide +kernel, by decide +kernel⟩
abbrev s_check_constant : Stmt := top 15
theorem sc_check_constant : FnScope ["value"] ["value"] (defScope s_check_constant) := ⟨rfl, rfl, rfl, by decide +kernel, rfl, by decide +kernel, by decide +kernel⟩
abbrev s_doubled : Stmt := top 16
theorem sc_doubled : FnScope ["base", "constant", "number", "left", "figures", "power", "length"] ["base", "constant", "number"] (defScope s_doubled) := ⟨rfl, rfl, rfl, by decide +kernel, rfl, by decide +kernel, by decide +kernel⟩
abbrev s_L_cell : Stmt := top 18
theorem sc_L_cell : FnScope ["_law_script", "_law_k", "_law_mixed", "_law_part_here"] ["_law_script", "_law_k"] (defScope s_L_cell) := ⟨rfl, rfl, rfl, by decide +kernel, rfl, by decide +kernel, by decide +kernel⟩
abbrev s_L_purse : Stmt := top 19
theorem sc_L_purse : FnScope ["_law_cell_here", "_law_first", "_law_mixed"] ["_law_cell_here"] (defScope s_L_purse) := ⟨rfl, rfl, rfl, by decide +kernel, rfl, by decide +kernel, by decide +kernel⟩
abbrev s_L_take : Stmt := top 20
theorem sc_L_take : FnScope ["_law_purse_here", "_law_many", "_law_digit", "_law_mixed"] ["_law_purse_here", "_law_many"] (defScope s_L_take) := ⟨rfl, rfl, rfl, by decide +kernel, rfl, by decide +kernel, by decide +kernel⟩
abbrev s_L_radix : Stmt := top 21
theorem sc_L_radix : FnScope ["_law_purse_here", "_law_way"] ["_law_purse_here"] (defScope s_L_radix) := ⟨rfl, rfl, rfl, by decide +kernel, rfl, by decide +kernel, by decide +kernel⟩
abbrev s_L_extra : Stmt := top 22
theorem sc_L_extra : FnScope ["_law_purse_here", "_law_way"] ["_law_purse_here"] (defScope s_L_extra) := ⟨rfl, rfl, rfl, by decide +kernel, rfl, by decide +kernel, by decide +kernel⟩
abbrev s_L_twice : Stmt := top 23
theorem sc_L_twice : FnScope ["_law_radix_here", "_law_extra_here", "_law_found", "_law_last", "_law_many", "_law_power", "_law_total", "_law_left"] ["_law_radix_here", "_law_extra_here"] (defScope s_L_twice) := ⟨rfl, rfl, rfl, by decide +kernel, rfl, by decide +kernel, by decide +kernel⟩
abbrev s_L_right : Stmt := top 24
theorem sc_L_right : FnScope ["_law_purse_here", "_law_radix_here", "_law_extra_here", "_law_due", "_law_k", "_law_told", "_law_later"] ["_law_purse_here"] (defScope s_L_right) := ⟨rfl, rfl, rfl, by decide +kernel, rfl, by decide +kernel, by decide +kernel⟩
abbrev s_law : Stmt := top 25
theorem sc_law : FnScope ["_law_script", "_law_k"] ["_law_script"] (defScope s_law) := ⟨rfl, rfl, rfl, by decide +kernel, rfl, by decide +kernel, by decide +kernel⟩
structure Tx (K : PySem.W.Frag) (mg : Str → Option Value) : Prop where
  d_is_integer : DefAt K mg "is_integer" s_is_integer
  d_is_between : DefAt K mg "is_between" s_is_between
  d_check_base : DefAt K mg "check_base" s_check_base
  d_check_constant : DefAt K mg "check_constant" s_check_constant
  d_doubled : DefAt K mg "doubled" s_doubled
  d_L_cell : DefAt K mg "_law_cell" s_L_cell
  d_L_purse : DefAt K mg "_law_purse" s_L_purse
  d_L_take : DefAt K mg "_law_take" s_L_take
  d_L_radix : DefAt K mg "_law_radix" s_L_radix
  d_L_extra : DefAt K mg "_law_extra" s_L_extra
  d_L_twice : DefAt K mg "_law_twice" s_L_twice
  d_L_right : DefAt K mg "_law_right" s_L_right
  d_law : DefAt K mg "law" s_law
  b_abs : mg "abs" = none
  b_all : mg "all" = none
  b_bool : mg "bool" = none
  b_divmod : mg "divmod" = none
  b_int : mg "int" = none
  b_isinstance : mg "isinstance" = none
  b_len : mg "len" = none
  b_max : mg "max" = none
  b_min : mg "min" = none
  b_range : mg "range" = none
  b_repr : mg "repr" = none
  c_MOST_LENGTH : ∃ u, mg "MOST_LENGTH" = some (.int 1000000000000000000000000000000000000000000000000000000000000 u)
  c_MOST_CONSTANT : ∃ u, mg "MOST_CONSTANT" = some (.int 1000 u)
  c_LEAST_BASE : ∃ u, mg "LEAST_BASE" = some (.int 2 u)
  c_MOST_BASE : ∃ u, mg "MOST_BASE" = some (.int 256 u)
def dd_is_integer : He.DefD := ⟨("is_integer", none), "is_integer", "is_integer", defArgs s_is_integer, defBody s_is_integer, defScope s_is_integer, [], []⟩
def dd_is_between : He.DefD := ⟨("is_between", none), "is_between", "is_between", defArgs s_is_between, defBody s_is_between, defScope s_is_between, [], []⟩
def dd_check_base : He.DefD := ⟨("check_base", none), "check_base", "check_base", defArgs s_check_base, defBody s_check_base, defScope s_check_base, [], []⟩
def dd_check_constant : He.DefD := ⟨("check_constant", none), "check_constant", "check_constant", defArgs s_check_constant, defBody s_check_constant, defScope s_check_constant, [], []⟩
def dd_doubled : He.DefD := ⟨("doubled", none), "doubled", "doubled", defArgs s_doubled, defBody s_doubled, defScope s_doubled, [], []⟩
def dd_L_cell : He.DefD := ⟨("_law_cell", none), "_law_cell", "_law_cell", defArgs s_L_cell, defBody s_L_cell, defScope s_L_cell, [], []⟩
def dd_L_purse : He.DefD := ⟨("_law_purse", none), "_law_purse", "_law_purse", defArgs s_L_purse, defBody s_L_purse, defScope s_L_purse, [], []⟩
def dd_L_take : He.DefD := ⟨("_law_take", none), "_law_take", "_law_take", defArgs s_L_take, defBody s_L_take, defScope s_L_take, [], []⟩
def dd_L_radix : He.DefD := ⟨("_law_radix", none), "_law_radix", "_law_radix", defArgs s_L_radix, defBody s_L_radix, defScope s_L_radix, [], []⟩
def dd_L_extra : He.DefD := ⟨("_law_extra", none), "_law_extra", "_law_extra", defArgs s_L_extra, defBody s_L_extra, defScope s_L_extra, [], []⟩
def dd_L_twice : He.DefD := ⟨("_law_twice", none), "_law_twice", "_law_twice", defArgs s_L_twice, defBody s_L_twice, defScope s_L_twice, [], []⟩
def dd_L_right : He.DefD := ⟨("_law_right", none), "_law_right", "_law_right", defArgs s_L_right, defBody s_L_right, defScope s_L_right, [], []⟩
def dd_law : He.DefD := ⟨("law", none), "law", "law", defArgs s_law, defBody s_law, defScope s_law, [], []⟩
def fnL : List He.DefD := [dd_is_integer, dd_is_between, dd_check_base, dd_check_constant, dd_doubled, dd_L_cell, dd_L_purse, dd_L_take, dd_L_radix, dd_L_extra, dd_L_twice, dd_L_right, dd_law]
def faL : List He.Fa := [.glo "is_integer", .glo "is_between", .glo "check_base", .glo "check_constant", .glo "doubled", .glo "_law_cell", .glo "_law_purse", .glo "_law_take", .glo "_law_radix", .glo "_law_extra", .glo "_law_twice", .glo "_law_right", .glo "law", .free "abs", .free "all", .free "bool", .free "divmod", .free "int", .free "isinstance", .free "len", .free "max", .free "min", .free "range", .free "repr", .int "MOST_LENGTH" 1000000000000000000000000000000000000000000000000000000000000, .int "MOST_CONSTANT" 1000, .int "LEAST_BASE" 2, .int "MOST_BASE" 256]
def loose0 : List Str := ["is_integer", "is_between", "check_base", "check_constant", "doubled", "_law_cell", "_law_purse", "_law_take", "_law_radix", "_law_extra", "_law_twice", "_law_right", "Misfit", "Excess", "InvalidBase", "InvalidNumber", "TooLong", "MOST_LENGTH", "MOST_CONSTANT", "LEAST_BASE", "MOST_BASE"]
def looseL : List Str := loose0
abbrev RR : PySem.W.OpenRow := PySem.W.OpenLaw.row PySem.Challenge.rw_sizestacks_k64_doubled_by_looking
abbrev hk : PySem.W.Hook := He.hookD 5 faL fnL
def ob (z : PySem.W.SharedT) : He.AlD := He.obsDG 5 faL fnL (HandSHeadRun.getT z)
theorem ob_eq (z : PySem.W.SharedT) : ob z = hk.obs z.abs := He.obsDG_eq (HandSHeadRun.getT_eq z)
theorem run (w : World) : HandSHeadRun.RunEq RR (PySem.W.view RR.prog [25]) hk ob 6000 looseL w := by
  intro os
  kernel_rfl
theorem tx_of {K : PySem.W.Frag} {h : Heap} {mg : Str → Option Value} (X : K.In h) (G : h.Ns mainGlobals mg) (c : He.SaysD faL fnL K) : Tx K mg where
  d_is_integer := let ⟨fd, F⟩ := c.def_ 0 (d := dd_is_integer) rfl; ⟨_, fd, F, He.glo_ok X G (c.fact 0 (f := .glo "is_integer") rfl)⟩
  d_is_between := let ⟨fd, F⟩ := c.def_ 1 (d := dd_is_between) rfl; ⟨_, fd, F, He.glo_ok X G (c.fact 1 (f := .glo "is_between") rfl)⟩
  d_check_base := let ⟨fd, F⟩ := c.def_ 2 (d := dd_check_base) rfl; ⟨_, fd, F, He.glo_ok X G (c.fact 2 (f := .glo "check_base") rfl)⟩
  d_check_constant := let ⟨fd, F⟩ := c.def_ 3 (d := dd_check_constant) rfl; ⟨_, fd, F, He.glo_ok X G (c.fact 3 (f := .glo "check_constant") rfl)⟩
  d_doubled := let ⟨fd, F⟩ := c.def_ 4 (d := dd_doubled) rfl; ⟨_, fd, F, He.glo_ok X G (c.fact 4 (f := .glo "doubled") rfl)⟩
  d_L_cell := let ⟨fd, F⟩ := c.def_ 5 (d := dd_L_cell) rfl; ⟨_, fd, F, He.glo_ok X G (c.fact 5 (f := .glo "_law_cell") rfl)⟩
  d_L_purse := let ⟨fd, F⟩ := c.def_ 6 (d := dd_L_purse) rfl; ⟨_, fd, F, He.glo_ok X G (c.fact 6 (f := .glo "_law_purse") rfl)⟩
  d_L_take := let ⟨fd, F⟩ := c.def_ 7 (d := dd_L_take) rfl; ⟨_, fd, F, He.glo_ok X G (c.fact 7 (f := .glo "_law_take") rfl)⟩
  d_L_radix := let ⟨fd, F⟩ := c.def_ 8 (d := dd_L_radix) rfl; ⟨_, fd, F, He.glo_ok X G (c.fact 8 (f := .glo "_law_radix") rfl)⟩
  d_L_extra := let ⟨fd, F⟩ := c.def_ 9 (d := dd_L_extra) rfl; ⟨_, fd, F, He.glo_ok X G (c.fact 9 (f := .glo "_law_extra") rfl)⟩
  d_L_twice := let ⟨fd, F⟩ := c.def_ 10 (d := dd_L_twice) rfl; ⟨_, fd, F, He.glo_ok X G (c.fact 10 (f := .glo "_law_twice") rfl)⟩
  d_L_right := let ⟨fd, F⟩ := c.def_ 11 (d := dd_L_right) rfl; ⟨_, fd, F, He.glo_ok X G (c.fact 11 (f := .glo "_law_right") rfl)⟩
  d_law := let ⟨fd, F⟩ := c.def_ 12 (d := dd_law) rfl; ⟨_, fd, F, He.glo_ok X G (c.fact 12 (f := .glo "law") rfl)⟩
  b_abs := He.free_ok X G (c.fact 13 (f := .free "abs") rfl)
  b_all := He.free_ok X G (c.fact 14 (f := .free "all") rfl)
  b_bool := He.free_ok X G (c.fact 15 (f := .free "bool") rfl)
  b_divmod := He.free_ok X G (c.fact 16 (f := .free "divmod") rfl)
  b_int := He.free_ok X G (c.fact 17 (f := .free "int") rfl)
  b_isinstance := He.free_ok X G (c.fact 18 (f := .free "isinstance") rfl)
  b_len := He.free_ok X G (c.fact 19 (f := .free "len") rfl)
  b_max := He.free_ok X G (c.fact 20 (f := .free "max") rfl)
  b_min := He.free_ok X G (c.fact 21 (f := .free "min") rfl)
  b_range := He.free_ok X G (c.fact 22 (f := .free "range") rfl)
  b_repr := He.free_ok X G (c.fact 23 (f := .free "repr") rfl)
  c_MOST_LENGTH := He.int_ok X G (c.fact 24 (f := .int "MOST_LENGTH" 1000000000000000000000000000000000000000000000000000000000000) rfl)
  c_MOST_CONSTANT := He.int_ok X G (c.fact 25 (f := .int "MOST_CONSTANT" 1000) rfl)
  c_LEAST_BASE := He.int_ok X G (c.fact 26 (f := .int "LEAST_BASE" 2) rfl)
  c_MOST_BASE := He.int_ok X G (c.fact 27 (f := .int "MOST_BASE" 256) rfl)
def spLaw (K : PySem.W.Frag) : Sp := fun vs H Q _ => ∃ (a : Addr) (ns : List Int), vs = [.ref a] ∧ SqL K H a (ns.map V.int) ∧ ns.length ≤ 63 ∧ (∀ z ∈ ns, Builtin.Int.intBits z ≤ 1048576) ∧ ∀ H', Q (.bl true) H'

/-! ### what a number is (for numbers alone) -/
def spIsInt : Sp := fun vs H Q _ => ∃ i : Int, vs = [.int i] ∧ Q (.bl true) H
def spBetween : Sp := fun vs H Q _ => ∃ v l m : Int, vs = [.int v, .int l, .int m] ∧ Q (.bl (decide (l ≤ v ∧ v ≤ m))) H
def spLength : Sp := fun vs H Q _ => ∃ n : Int, vs = [.int n] ∧ 0 ≤ n ∧ n ≤ 10 ^ 60 - 1 ∧ Q .non H
def spBase : Sp := fun vs H Q _ => ∃ n : Int, vs = [.int n] ∧ 2 ≤ n ∧ n ≤ 256 ∧ Q .non H
def spFig : Sp := fun vs H Q _ => ∃ n b : Int, vs = [.int n, .int b] ∧ 2 ≤ b ∧ b ≤ 256 ∧ n < 2 ^ 4000 ∧ ∀ k, IsF b n k → Q (.int k) H
section
variable {P : Program} {w : World} {K : PySem.W.Frag} {mg : Str → Option Value} {base : Heap}
theorem ok_is_integer (T : Tx K mg) : Prom P w K mg base CX0 1 "is_integer" s_is_integer ["value"] spIsInt := by
  refine Prom.of T.d_is_integer sc_is_integer (fun vs H Q E h => ?_) (fun _ _ _ _ _ _ us hl => match us, hl with | [_], _ => rfl) (fun f cdv A outer s H vs Q E hr h => ?_)
  · obtain ⟨i, rfl, _⟩ := h
    rfl
  · obtain ⟨i, rfl, k⟩ := h
    refine ⟨_, (pss_one (ps_ret (pe_and (pe_callB call_isi (by rfl) T.b_isinstance (by decide +kernel) (pa_cons (pv 0) (pa_cons (pe_bltn (v := .ty "int") (by rfl) T.b_int (by decide +kernel) rfl) pa_nil))) (pe_and (pe_cmpR op_isnotBl (pv 0) pe_bl (nomark _)) (pe_one (pe_cmpR op_isnotBl (pv 0) pe_bl (nomark _))))))), ?_⟩
    refine ⟨_, rfl, _, _, _, _, true, rfl, .ty _, .base (.int _), kit_ty (by decide +kernel), true, rfl, iteT ?_⟩
    refine ⟨_, rfl, _, rfl, true, rfl, iteT ?_⟩
    exact ⟨_, rfl, _, rfl, k⟩
theorem ok_is_between (T : Tx K mg) : Prom P w K mg base CX0 2 "is_between" s_is_between ["value", "least", "most"] spBetween := by
  refine Prom.of T.d_is_between sc_is_between (fun vs H Q E h => ?_) (fun _ _ _ _ _ _ us hl => match us, hl with | [_, _, _], _ => rfl) (fun f cdv A outer s H vs Q E hr h => ?_)
  · obtain ⟨v, l, m, rfl, _⟩ := h
    rfl
  · obtain ⟨v, l, m, rfl, k⟩ := h
    refine ⟨_, (pss_one (ps_ret (pe_and (pe_callP (ok_is_integer T) (hr.mono (by decide)) (by rfl) pass0 (pa_cons (pv 0) pa_nil)) (pe_one (pe_chain op_le op_le (pv 1) (pv 0) (pv 2)))))), ?_⟩
    refine ⟨_, rfl, v, rfl, true, rfl, iteT ?_⟩
    refine ⟨_, rfl, _, rfl, _, _, rfl, rfl, _, rfl, ifd (fun h1 => ?_) (fun h1 => ?_)⟩
    · refine ⟨_, rfl, _, _, rfl, rfl, ?_⟩
      show Q (.bl (decide (v ≤ m))) H
      have e : decide (v ≤ m) = decide (l ≤ v ∧ v ≤ m) := by simp [h1]
      rw [e]
      exact k
    · show Q (.bl false) H
      have e : false = decide (l ≤ v ∧ v ≤ m) := by simp [h1]
      rw [e]
      exact k
end
section
variable {P : Program} {w : World} {K : PySem.W.Frag} {mg : Str → Option Value} {base : Heap}
theorem ok_check_base (T : Tx K mg) : Prom P w K mg base CX0 3 "check_base" s_check_base ["value"] spBase := by
  refine Prom.of T.d_check_base sc_check_base (fun vs H Q E h => ?_) (fun _ _ _ _ _ _ us hl => match us, hl with | [_], _ => rfl) (fun f cdv A outer s H vs Q E hr h => ?_)
  · obtain ⟨i, rfl, _⟩ := h
    rfl
  · obtain ⟨i, rfl, h0, h1, k⟩ := h
    refine ⟨_, (pss_one (ps_if (pt_not (pt_val (pe_callP (ok_is_between T) (hr.mono (by decide)) (by rfl) pass0 (pa_cons (pv 0) (pa_cons (pe_gint T.c_LEAST_BASE) (pa_cons (pe_gint T.c_MOST_BASE) pa_nil)))))) (pss_one ps_never) pss_nil)), ?_⟩
    refine ⟨_, rfl, _, _, _, rfl, _, rfl, ?_⟩
    exact ifn (fun c => absurd (show (2 : Int) ≤ i ∧ i ≤ 256 from ⟨h0, h1⟩) c) (fun _ => k)
end
section
variable {P : Program} {w : World} {K : PySem.W.Frag} {mg : Str → Option Value} {base : Heap}
def spConst : Sp := fun vs H Q _ => ∃ n : Int, vs = [.int n] ∧ 0 ≤ n ∧ n ≤ 1000 ∧ Q .non H
theorem ok_check_constant (T : Tx K mg) : Prom P w K mg base CX0 3 "check_constant" s_check_constant ["value"] spConst := by
  refine Prom.of T.d_check_constant sc_check_constant (fun vs H Q E h => ?_) (fun _ _ _ _ _ _ us hl => match us, hl with | [_], _ => rfl) (fun f cdv A outer s H vs Q E hr h => ?_)
  · obtain ⟨i, rfl, _⟩ := h
    rfl
  · obtain ⟨i, rfl, h0, h1, k⟩ := h
    refine ⟨_, (pss_one (ps_if (pt_not (pt_val (pe_callP (ok_is_between T) (hr.mono (by decide)) (by rfl) pass0 (pa_cons (pv 0) (pa_cons pe_int (pa_cons (pe_gint T.c_MOST_CONSTANT) pa_nil)))))) (pss_one ps_never) pss_nil)), ?_⟩
    refine ⟨_, rfl, _, _, _, rfl, _, rfl, ?_⟩
    exact ifn (fun c => absurd (show (0 : Int) ≤ i ∧ i ≤ 1000 from ⟨h0, h1⟩) c) (fun _ => k)
end
section
variable {P : Program} {w : World} {K : PySem.W.Frag} {mg : Str → Option Value} {base : Heap}
def spDoubled : Sp := fun vs H Q _ => ∃ (b c : Int) (n j : Nat), vs = [.int b, .int c, .int (n : Int)] ∧ 2 ≤ b ∧ b ≤ 256 ∧ 0 ≤ c ∧ c ≤ 1000 ∧ IsJ b c j ∧ dlen b c (j + n) < 10 ^ 60 ∧ Q (.int (dlen b c (j + n))) H
theorem ok_doubled (T : Tx K mg) : Prom P w K mg base CX0 4 "doubled" s_doubled ["base", "constant", "number"] spDoubled := by
  refine Prom.of T.d_doubled sc_doubled (fun vs H Q E h => ?_) (fun _ _ _ _ _ _ us hl => match us, hl with | [_, _, _], _ => rfl) (fun f cdv A outer s H vs Q E hr h => ?_)
  · obtain ⟨b, c, n, j, rfl, _⟩ := h
    rfl
  · obtain ⟨b, c, n, j0, rfl, b0, b1, c0, c1, hj, hlt, k⟩ := h
    refine ⟨_, (pss_cons (ps_expr (pe_callP (ok_check_base T) (hr.mono (by decide)) (by rfl) pass0 (pa_cons (pv 0) pa_nil)))
      (pss_cons (ps_expr (pe_callP (ok_check_constant T) (hr.mono (by decide)) (by rfl) pass0 (pa_cons (pv 1) pa_nil)))
      (pss_cons (ps_if (PW.pt (pw_or (pt_not (pt_val (pe_callP (ok_is_integer T) (hr.mono (by decide)) (by rfl) pass0 (pa_cons (pv 2) pa_nil)))) (pw_or1 (pt_cmp (pc_lt (pv 2) pe_int))))) (pss_one ps_never) pss_nil)
      (pss_cons (ps_par3 (i := 3) (j := 4) (l := 5) (by rfl) sc_doubled.nd rfl rfl rfl (by decide) (by decide) (by decide) rfl rfl rfl (pa_cons (pv 2) (pa_cons pe_int (pa_cons (pv 0) pa_nil))) (by rfl))
      (pss_cons (ps_set (i := 6) sc_doubled.nd rfl (Or.inl rfl) (pe_op op_sub (pe_op op_sub (pe_op op_sub (pv 5) pe_int) (pv 4)) (pv 1)))
      (pss_cons (ps_while PassesOwn.never (PW.pt (pw_or (pt_cmp (pc_lt (pv 6) pe_int)) (pw_or1 (pt_cmp (pc_gt (pv 3) pe_int))))) (pss_cons (ps_if (pt_cmp (pc_ge (pv 6) (pe_gint T.c_MOST_LENGTH))) (pss_one ps_never) pss_nil)
      (pss_cons (ps_aug (i := 3) sc_doubled.nd rfl (.inl rfl) (pe_ifExp (pt_cmp (pc_lt (pv 6) pe_int)) pe_int pe_int) ip_sub)
      (pss_cons (ps_par (i := 4) (j := 5) (by rfl) sc_doubled.nd rfl rfl (by decide) rfl rfl (pa_cons (pe_op op_add (pv 4) pe_int) (pa_cons (pe_op op_mul (pv 5) (pv 0)) pa_nil)) (by rfl))
      (pss_one (ps_set (i := 6) sc_doubled.nd rfl (Or.inl rfl) (pe_op op_sub (pe_op op_sub (pe_op op_sub (pv 5) pe_int) (pv 4)) (pv 1))))))))
      (pss_cons (ps_if (pt_cmp (pc_ge (pv 6) (pe_gint T.c_MOST_LENGTH))) (pss_one ps_never) pss_nil)
      (pss_one (ps_ret (pv 6)))))))))), ?_⟩
    refine ⟨_, rfl, b, rfl, b0, b1, _, rfl, c, rfl, c0, c1, ?_⟩
    refine ⟨_, rfl, _, rfl, _, rfl, iteF ⟨_, rfl, _, _, rfl, rfl, _, rfl, ifd_neg (by omega) ?_⟩⟩
    refine ⟨_, rfl, _, rfl, _, _, _, rfl, ?_⟩
    refine ⟨_, rfl, _, _, rfl, rfl, _, rfl, _, _, rfl, rfl, _, rfl, _, _, rfl, rfl, ?_⟩
    have hpos := hj.pos
    -- the word of the loop: j figures, what is left
    refine ⟨fun m σ H1 => H1 = H ∧ ∃ j : Nat, 1 ≤ j ∧ j ≤ j0 + n ∧ σ = [some (.int b), some (.int c), some (.int (n : Int)), some (.int ((n : Int) - ((j - j0 : Nat) : Int))), some (.int (j : Int)), some (.int (b ^ j)), some (.int (dlen b c j))] ∧ m = j0 + n - j,
      ⟨_, rfl, 1, Nat.le_refl 1, by omega, ?_, rfl⟩, ?_⟩
    · have e1 : (1 - j0 : Nat) = 0 := by omega
      have e2 : b ^ 1 = b := pow_one b
      unfold dlen
      rw [e1, e2]
      have e3 : (n : Int) - ((0 : Nat) : Int) = (n : Int) := by omega
      rw [e3]
      rfl
    rintro m σ H1 ⟨rfl, j, j1, j2, rfl, hm⟩
    have lt60 : dlen b c j < 10 ^ 60 := Int.lt_of_le_of_lt (dlen_mono b0 j1 j2) hlt
    have hi := isJ_iff b0 hj j1
    -- one turn more
    have turn : ∀ z : Int, j < j0 + n → (n : Int) - ((j - j0 : Nat) : Int) - z = (n : Int) - ((j + 1 - j0 : Nat) : Int) →
        ∃ m', m' < m ∧ H1 = H1 ∧ ∃ i : Nat, 1 ≤ i ∧ i ≤ j0 + n ∧ [some (V.int b), some (V.int c), some (V.int (n : Int)), some (V.int ((n : Int) - ((j - j0 : Nat) : Int) - z)), some (V.int ((j : Int) + 1)), some (V.int (b ^ j * b)), some (V.int (b ^ j * b - 1 - ((j : Int) + 1) - c))] = [some (.int b), some (.int c), some (.int (n : Int)), some (.int ((n : Int) - ((i - j0 : Nat) : Int))), some (.int (i : Int)), some (.int (b ^ i)), some (.int (dlen b c i))] ∧ m' = j0 + n - i := fun z hz ez => by
      refine ⟨_, ?_, rfl, j + 1, by omega, by omega, ?_, rfl⟩
      · omega
      · unfold dlen
        rw [ez, Int.pow_succ]
        rfl
    refine ⟨_, rfl, _, _, rfl, rfl, _, rfl, ifd (fun h1 => iteT ?_) (fun h1 => ?_)⟩
    · -- length < 0
      have hjj : j < j0 := by
        by_cases z : j0 ≤ j
        · have := hi.mpr z
          omega
        · omega
      refine ⟨_, fun _ _ h => h, ?_⟩
      refine ⟨_, rfl, _, _, rfl, rfl, _, rfl, ifd_neg (by show ¬ _ ≤ dlen b c j; omega) ?_⟩
      refine ⟨_, rfl, _, rfl, _, _, rfl, rfl, _, rfl, ifd_pos h1 ?_⟩
      refine ⟨_, _, rfl, rfl, ?_⟩
      refine ⟨_, rfl, _, _, rfl, rfl, _, rfl, _, rfl, _, _, rfl, rfl, .inr ⟨by omega, by omega⟩, _, _, rfl, ?_⟩
      refine ⟨_, rfl, _, _, rfl, rfl, _, rfl, _, _, rfl, rfl, _, rfl, _, _, rfl, rfl, ?_⟩
      exact turn 0 (by omega) (by omega)
    · have hjj : j0 ≤ j := hi.mp (by omega)
      refine ⟨_, rfl, _, _, rfl, rfl, _, rfl, ifd (fun h2 => ?_) (fun h2 => ?_)⟩
      · refine ⟨_, fun _ _ h => h, ?_⟩
        refine ⟨_, rfl, _, _, rfl, rfl, _, rfl, ifd_neg (by show ¬ _ ≤ dlen b c j; omega) ?_⟩
        refine ⟨_, rfl, _, rfl, _, _, rfl, rfl, _, rfl, ifd_neg h1 ?_⟩
        refine ⟨_, _, rfl, rfl, ?_⟩
        refine ⟨_, rfl, _, _, rfl, rfl, _, rfl, _, rfl, _, _, rfl, rfl, .inr ⟨by omega, by omega⟩, _, _, rfl, ?_⟩
        refine ⟨_, rfl, _, _, rfl, rfl, _, rfl, _, _, rfl, rfl, _, rfl, _, _, rfl, rfl, ?_⟩
        exact turn 1 (by omega) (by omega)
      · refine ⟨_, rfl, _, _, rfl, rfl, _, rfl, ifd_neg (by show ¬ _ ≤ dlen b c j; omega) ?_⟩
        have e : j = j0 + n := by omega
        subst e
        exact ⟨_, rfl, k⟩
end
/-! ### ints shown -/
theorem shownAll_ints : ∀ xs : List Int, PyData.shownAll (xs.map PyData.int) = xs.map fun i => (toString i : Str)
  | [] => rfl
  | x :: xs => by
    show (toString x : Str) :: PyData.shownAll (xs.map PyData.int) = _
    rw [shownAll_ints xs]
    rfl
theorem sum_short : ∀ (xs : List Int), (∀ x ∈ xs, x.natAbs < 10 ^ 70) → ((xs.map fun i => (toString i : Str)).map (·.length)).sum ≤ 71 * xs.length
  | [], _ => by simp
  | x :: xs, h => by
    have h1 := sum_short xs fun y hy => h y (List.mem_cons_of_mem _ hy)
    have h2 : (toString x : Str).length ≤ 71 := by
      have := int_text_length_le10 (k := 70) (by decide) (h x (List.mem_cons_self ..))
      have e : (Str.ofString (toString x)).length = (toString x : String).length := PySem.ofString_length _
      show (Str.ofString (toString x)).length ≤ 71
      omega
    simp only [List.map_cons, List.sum_cons, List.length_cons]
    omega
def Shows (d : PyData) : Prop := d.showable = true ∧ d.hasDict = false ∧ d.depth ≤ 40 ∧ d.shown.length ≤ sizeLine
theorem ints_showable : ∀ xs : List Int, (∀ x ∈ xs, x.natAbs < 10 ^ 70) → PyData.showableAll (xs.map PyData.int) = true ∧ PyData.hasDictAll (xs.map PyData.int) = false ∧ PyData.depthAll (xs.map PyData.int) ≤ 2
  | [], _ => ⟨rfl, rfl, by decide⟩
  | x :: xs, h => by
    obtain ⟨h1, h2, h3⟩ := ints_showable xs fun y hy => h y (List.mem_cons_of_mem _ hy)
    have hx : x.natAbs.log2 < 1920 := by
      have h4 : x.natAbs < 2 ^ 300 := Nat.lt_of_lt_of_le (h x (List.mem_cons_self ..)) (by decide)
      exact Nat.lt_of_lt_of_le (PySem.Flt.log2_lt_of (by decide) h4) (by decide)
    refine ⟨?_, ?_, ?_⟩
    · show (decide (x.natAbs.log2 < 1920) && PyData.showableAll (xs.map PyData.int)) = true
      rw [h1, decide_eq_true hx] <;> rfl
    · show (false || PyData.hasDictAll (xs.map PyData.int)) = false
      rw [h2] <;> rfl
    · show max (PyData.depth (.int x)) (PyData.depthAll (xs.map PyData.int)) ≤ 2
      have : PyData.depth (.int x) ≤ 1 := by first | exact Nat.le_refl _ | exact Nat.zero_le _ | decide
      omega
theorem shows_tuple {xs : List Int} (h : ∀ x ∈ xs, x.natAbs < 10 ^ 70) (hl : xs.length ≤ 10000) : Shows (.tuple (xs.map PyData.int)) := by
  obtain ⟨h1, h2, h3⟩ := ints_showable xs h
  refine ⟨h1, h2, ?_, ?_⟩
  · show PyData.depthAll (xs.map PyData.int) + 1 ≤ 40
    omega
  · show (tupleText (PyData.shownAll (xs.map PyData.int))).length ≤ sizeLine
    have h4 := tupleText_len_le (PyData.shownAll (xs.map PyData.int))
    rw [shownAll_ints] at h4 ⊢
    have h5 := sum_short xs h
    rw [List.length_map] at h4
    rw [sizeLine_eq]
    omega
theorem shows_list {xs : List Int} (h : ∀ x ∈ xs, x.natAbs < 10 ^ 70) (hl : xs.length ≤ 10000) : Shows (.list (xs.map PyData.int)) := by
  obtain ⟨h1, h2, h3⟩ := ints_showable xs h
  refine ⟨h1, h2, ?_, ?_⟩
  · show PyData.depthAll (xs.map PyData.int) + 1 ≤ 40
    omega
  · show (listText (PyData.shownAll (xs.map PyData.int))).length ≤ sizeLine
    have h4 := listText_len_le (PyData.shownAll (xs.map PyData.int))
    rw [shownAll_ints] at h4 ⊢
    have h5 := sum_short xs h
    rw [List.length_map] at h4
    rw [sizeLine_eq]
    omega
theorem dp_ints {K : PySem.W.Frag} {H : Hp} : ∀ xs : List Int, DpAll K H (xs.map V.int) (xs.map PyData.int)
  | [] => .nil
  | x :: xs => .cons (.int x) (dp_ints xs)
/-! ### the law's purse: what is drawn lies in its range, and nothing else is told of it -/
def PurseAt (H : Hp) (p : Addr) : Prop := ∃ m d c : Int, H p = some (.lst [.int m, .int d, .int c]) ∧ 0 ≤ m ∧ m < 2147483629 ∧ 0 ≤ d ∧ 0 ≤ c
theorem PurseAt.of {H : Hp} {p : Addr} {m d c : Int} (h : H p = some (.lst [.int m, .int d, .int c])) (h1 : 0 ≤ m) (h2 : m < 2147483629) (h3 : 0 ≤ d) (h4 : 0 ≤ c) : PurseAt H p := ⟨m, d, c, h, h1, h2, h3, h4⟩
/-- behind draws: the purse is one, all else stands -/
structure Drew (p : Addr) (H H' : Hp) : Prop where
  at_ : PurseAt H' p
  kp : Kp p H H'
theorem Drew.refl {p : Addr} {H : Hp} (h : PurseAt H p) : Drew p H H := ⟨h, Kp.refl p H⟩
theorem Drew.trans {p : Addr} {H H1 H2 : Hp} (a : Drew p H H1) (b : Drew p H1 H2) : Drew p H H2 := ⟨b.at_, a.kp.trans b.kp⟩
/-- a new object beside the purse -/
theorem Drew.new {p q : Addr} {H H' : Hp} {o : HO} (a : Drew p H H') (h : H' q = none) : Drew p H (upd H' q o) := by
  obtain ⟨m, d, c, e, r⟩ := a.at_
  exact ⟨⟨m, d, c, by rw [upd_ne (ne_of_none e h)]; exact e, r⟩, a.kp.new h⟩
/-- new things beside the purse -/
theorem Drew.same {p : Addr} {H H1 H2 : Hp} (a : Drew p H H1) (b : Same H1 H2) : Drew p H H2 := by
  obtain ⟨m, d, c, e, r⟩ := a.at_
  exact ⟨⟨m, d, c, b _ _ e, r⟩, fun x o n h => b _ _ (a.kp x o n h)⟩
def spRight : Sp := fun vs H Q _ => ∃ (p : Addr), vs = [.ref p] ∧ PurseAt H p ∧ ∀ H', Drew p H H' → Q (.bl true) H'
def spCell (K : PySem.W.Frag) : Sp := fun vs H Q _ => ∃ (a : Addr) (ns : List Int) (k : Int), vs = [.ref a, .int k] ∧ SqL K H a (ns.map V.int) ∧ 0 ≤ k ∧ k ≤ 1000 ∧ ∀ z H', Same H H' → Q (.int z) H'
def spPurse : Sp := fun vs H Q _ => ∃ c : Int, vs = [.int c] ∧ ∀ p H', H p = none → Same H H' → PurseAt H' p → Q (.ref p) H'
def spTake : Sp := fun vs H Q _ => ∃ (p : Addr) (n : Int), vs = [.ref p, .int n] ∧ PurseAt H p ∧ 0 < n ∧ n ≤ 1000000000000000000000000000000 ∧ ∀ r H', 0 ≤ r → r < n → Drew p H H' → Q (.int r) H'
/-- a number between two is drawn -/
def spDraw (lo hi : Int) : Sp := fun vs H Q _ => ∃ (p : Addr), vs = [.ref p] ∧ PurseAt H p ∧ ∀ r H', lo ≤ r → r ≤ hi → Drew p H H' → Q (.int r) H'
def spWide : Sp := fun vs H Q _ => ∃ (p : Addr) (n : Int), vs = [.ref p, .int n] ∧ PurseAt H p ∧ 0 < n ∧ ∀ r H', 0 ≤ r → r < n → Drew p H H' → Q (.int r) H'
theorem cutV_ints (ns : List Int) (lo hi : Option Int) : ∃ ms : List Int, cutV (ns.map V.int) lo hi = ms.map V.int := by
  unfold cutV
  exact ⟨_, by rw [← List.map_drop, ← List.map_take]⟩
theorem item_int {ns : List Int} {i : Nat} {x : V} (h : (ns.map V.int)[i]? = some x) : ∃ z, x = .int z := by
  rw [List.getElem?_map] at h
  cases e : ns[i]? with
  | none =>
    rw [e] at h
    cases h
  | some z =>
    rw [e] at h
    exact ⟨z, (Option.some.inj h).symm⟩
section
variable {P : Program} {w : World} {K : PySem.W.Frag} {mg : Str → Option Value} {base : Heap}
theorem ok_L_cell (T : Tx K mg) : Prom P w K mg base CX0 1 "_law_cell" s_L_cell ["_law_script", "_law_k"] (spCell K) := by
  refine Prom.of T.d_L_cell sc_L_cell (fun vs H Q E h => ?_) (fun _ _ _ _ _ _ us hl => match us, hl with | [_, _], _ => rfl) (fun f cdv A outer s H vs Q E hr h => ?_)
  · obtain ⟨a, ns, n, rfl, _⟩ := h
    rfl
  · obtain ⟨a, ns, n, rfl, hS, h0, h1, k⟩ := h
    refine ⟨_, (pss_cons (ps_if (pt_cmp (pc_lt (pv 1) (pe_callB call_len_seq (by rfl) T.b_len (by decide +kernel) (pa_cons (pv 0) pa_nil)))) (pss_one (ps_ret (pe_ix ix_list (pv 0) (pv 1) (fun _ _ => rfl)))) pss_nil)
      (pss_cons (ps_set (i := 2) sc_L_cell.nd rfl (Or.inl rfl) (pe_op op_add (pe_op op_add (pe_op op_mul (pe_op op_mul pe_int (pv 1)) (pv 1)) (pe_op op_mul pe_int (pv 1))) pe_int))
      (pss_cons (ps_for PassesOwn.never (by rfl) (pi_list (pe_slice sl_list (pv 0) po_none (po_some pe_int))) (pg_name (i := 3) sc_L_cell.nd rfl (Or.inl rfl)) (pss_one (ps_set (i := 2) sc_L_cell.nd rfl (Or.inl rfl) (pe_op op_mod (pe_callTy call_int1 (by rfl) T.b_int (by decide +kernel) (pa_cons (pe_op op_add (pe_op op_add (pe_op op_mul (pv 2) pe_int) (pv 3)) pe_int) pa_nil)) pe_int))))
      (pss_one (ps_ret (pv 2)))))), ?_⟩
    refine ⟨_, rfl, _, rfl, _, _, rfl, .inl hS, _, _, rfl, rfl, _, rfl, ifd (fun c => ?_) (fun c => ?_)⟩
    · rw [List.length_map] at c
      have hi : n.toNat < ns.length := by omega
      obtain ⟨z, hz⟩ : ∃ z, ns[n.toNat]? = some z := ⟨_, List.getElem?_eq_getElem hi⟩
      have ez : (ns.map V.int)[n.toNat]? = some (V.int z) := by rw [List.getElem?_map, hz]; rfl
      exact ⟨_, rfl, _, rfl, _, _, _, _, rfl, rfl, hS, at_of (show n = ((n.toNat : Nat) : Int) by omega) ez, k z H (Same.refl H)⟩
    · refine ⟨_, rfl, _, _, rfl, rfl, .inl ⟨by decide, by decide⟩, _, rfl, _, _, rfl, rfl, .inr ⟨by omega, by omega⟩, ?_⟩
      refine ⟨_, rfl, _, _, rfl, rfl, .inl ⟨by decide, by decide⟩, _, _, rfl, rfl, _, _, rfl, rfl, ?_⟩
      obtain ⟨ms, hms⟩ := cutV_ints ns none (some 4)
      refine ⟨_, rfl, _, rfl, a, _, rfl, hS, fun p hp => ?_⟩
      rw [hms]
      refine ⟨p, rfl, ⟨_, SqL.of upd_same⟩, for_list (K := K) (a := p) (xs := ms.map V.int) (fun i σ H' => Same (upd H p (.lst (ms.map V.int))) H' ∧ ∃ m v, σ = [some (.ref a), some (.int n), some (.int m), v]) ⟨Same.refl _, _, none, rfl⟩ (fun i σ H' _ h => SqL.of (h.1 _ _ upd_same)) ?_ ?_⟩
      · rintro i x σ H' hi ⟨hs, m, v, rfl⟩
        obtain ⟨z, rfl⟩ := item_int hi
        refine ⟨_, rfl, _, _, rfl, rfl, .inr ⟨by decide, by decide⟩, _, rfl, _, _, rfl, rfl, _, _, rfl, rfl, .inl ⟨_, rfl, ?_⟩⟩
        exact ⟨_, _, rfl, rfl, (show (0 : Int) < 2147483629 by decide), hs, _, _, rfl⟩
      · rintro σ H' ⟨hs, m, v, rfl⟩
        exact ⟨_, rfl, k m H' (Same.trans (fun b o e => by rw [upd_ne (ne_of_none e hp)]; exact e) hs)⟩
theorem ok_L_purse (T : Tx K mg) : Prom P w K mg base CX0 1 "_law_purse" s_L_purse ["_law_cell_here"] spPurse := by
  refine Prom.of T.d_L_purse sc_L_purse (fun vs H Q E h => ?_) (fun _ _ _ _ _ _ us hl => match us, hl with | [_], _ => rfl) (fun f cdv A outer s H vs Q E hr h => ?_)
  · obtain ⟨c, rfl, _⟩ := h
    rfl
  · obtain ⟨c, rfl, k⟩ := h
    refine ⟨_, (pss_cons (ps_set (i := 1) sc_L_purse.nd rfl (Or.inl rfl) (pe_op op_mod (pe_callTy call_int1 (by rfl) T.b_int (by decide +kernel) (pa_cons (pv 0) pa_nil)) pe_int))
      (pss_cons (ps_set (i := 2) sc_L_purse.nd rfl (Or.inl rfl) (pe_op op_mod (pe_callTy call_int1 (by rfl) T.b_int (by decide +kernel) (pa_cons (pe_op op_add (pe_op op_mul (pv 1) pe_int) pe_int) pa_nil)) pe_int))
      (pss_cons (ps_set (i := 2) sc_L_purse.nd rfl (Or.inl rfl) (pe_op op_mod (pe_callTy call_int1 (by rfl) T.b_int (by decide +kernel) (pa_cons (pe_op op_add (pe_op op_add (pe_op op_mul (pv 2) (pv 2)) (pe_op op_mul pe_int (pv 1))) pe_int) pa_nil)) pe_int))
      (pss_one (ps_ret (pe_lst (pa_cons (pv 2) (pa_cons (pe_ifExp (PW.pt (pw_or (pt_cmp (pc_lt (pv 0) pe_int)) (pw_or1 (pt_cmp (pc_ge (pv 0) (pe_op op_pow pe_int pe_int)))))) (pe_op op_mod (pe_callTy call_int1 (by rfl) T.b_int (by decide +kernel) (pa_cons (pe_callB call_abs (by rfl) T.b_abs (by decide +kernel) (pa_cons (pv 0) pa_nil)) pa_nil)) (pe_op op_powW (pe_op op_pow pe_int pe_int) pe_int)) pe_int) (pa_cons pe_int pa_nil))))))))), ?_⟩
    have d0 : (0 : Int) < 2147483629 := by decide
    refine ⟨_, rfl, .inl ⟨_, rfl, _, _, rfl, rfl, d0, ?_⟩⟩
    have a1 := Int.emod_nonneg c (show (2147483629 : Int) ≠ 0 by decide)
    have a2 := Int.emod_lt_of_pos c d0
    refine ⟨_, rfl, _, _, rfl, rfl, .inr ⟨by decide, by decide⟩, _, _, rfl, rfl, .inl ⟨_, rfl, _, _, rfl, rfl, d0, ?_⟩⟩
    have b1 : 0 ≤ (c % 2147483629 * 69809 + 1013) % 2147483629 := Int.emod_nonneg _ (by decide)
    have b2 : (c % 2147483629 * 69809 + 1013) % 2147483629 < 2147483629 := Int.emod_lt_of_pos _ d0
    refine ⟨_, rfl, _, rfl, _, _, rfl, rfl, .inl ⟨by omega, by omega⟩, _, rfl, _, _, rfl, rfl, .inl ⟨by decide, by decide⟩, _, _, rfl, rfl, _, _, rfl, rfl, .inl ⟨_, rfl, _, _, rfl, rfl, d0, ?_⟩⟩
    have fin : ∀ x d : Int, 0 ≤ d → ∀ p, H p = none → Q (.ref p) (upd H p (.lst [.int (x % 2147483629), .int d, .int 0])) := fun x d hd p hp =>
      k p _ hp (fun b o e => by rw [upd_ne (ne_of_none e hp)]; exact e) (PurseAt.of upd_same (Int.emod_nonneg _ (by decide)) (Int.emod_lt_of_pos _ d0) hd (Int.le_refl 0))
    refine ⟨_, rfl, _, rfl, _, _, rfl, rfl, _, rfl, ifd (fun h1 => iteT ?_) (fun h1 => ?_)⟩
    · refine ⟨_, rfl, _, rfl, .inl ⟨_, rfl, _, _, rfl, rfl, ⟨by decide, by decide, by decide⟩, _, _, rfl, rfl, ⟨by decide, by decide, 200, by decide, by decide⟩, _, _, rfl, rfl, (by show (0 : Int) < (10 ^ (50 : Int).toNat) ^ (16 : Int).toNat; decide), ?_⟩⟩
      exact ⟨(by show 3 ≤ sizeLine; decide), fun p hp => fin _ _ (Int.emod_nonneg _ (by decide)) p hp⟩
    refine ⟨_, rfl, _, _, rfl, rfl, ⟨by decide, by decide, by decide⟩, _, _, rfl, rfl, _, rfl, ifd (fun h2 => ?_) (fun h2 => ?_)⟩
    · refine ⟨_, rfl, _, rfl, .inl ⟨_, rfl, _, _, rfl, rfl, ⟨by decide, by decide, by decide⟩, _, _, rfl, rfl, ⟨by decide, by decide, 200, by decide, by decide⟩, _, _, rfl, rfl, (by show (0 : Int) < (10 ^ (50 : Int).toNat) ^ (16 : Int).toNat; decide), ?_⟩⟩
      exact ⟨(by show 3 ≤ sizeLine; decide), fun p hp => fin _ _ (Int.emod_nonneg _ (by decide)) p hp⟩
    · exact ⟨(by show 3 ≤ sizeLine; decide), fun p hp => fin _ 0 (Int.le_refl 0) p hp⟩
theorem ok_L_take (T : Tx K mg) : Prom P w K mg base CX0 1 "_law_take" s_L_take ["_law_purse_here", "_law_many"] spTake := by
  refine Prom.of T.d_L_take sc_L_take (fun vs H Q E h => ?_) (fun _ _ _ _ _ _ us hl => match us, hl with | [_, _], _ => rfl) (fun f cdv A outer s H vs Q E hr h => ?_)
  · obtain ⟨p, n, rfl, _⟩ := h
    rfl
  · obtain ⟨p, n, rfl, ⟨m, d, c, hp, h1, h2, h3, h4⟩, hn, hn2, k⟩ := h
    refine ⟨_, (pss_cons (ps_asg (pe_op op_add (pe_ix ix_list (pv 0) pe_int (fun _ _ => rfl)) pe_int) (pg_sub (pv 0) pe_int set_list))
      (pss_cons (ps_if (pt_cmp (pc_gt (pe_ix ix_list (pv 0) pe_int (fun _ _ => rfl)) pe_int)) (pss_cons (ps_asg (pe_callB call_divmodW (by rfl) T.b_divmod (by decide +kernel) (pa_cons (pe_ix ix_list (pv 0) pe_int (fun _ _ => rfl)) (pa_cons (pv 1) pa_nil))) (pg_tup rfl (pgs_cons (pg_sub (pv 0) pe_int set_list) (pgs_cons (pg_name (i := 2) sc_L_take.nd rfl (Or.inl rfl)) pgs_nil))))
      (pss_one (ps_ret (pv 2)))) pss_nil)
      (pss_cons (ps_set (i := 3) sc_L_take.nd rfl (Or.inl rfl) (pe_callTy call_int1 (by rfl) T.b_int (by decide +kernel) (pa_cons (pe_ix ix_list (pv 0) pe_int (fun _ _ => rfl)) pa_nil)))
      (pss_cons (ps_asg (pe_op op_mod (pe_callTy call_int1 (by rfl) T.b_int (by decide +kernel) (pa_cons (pe_op op_add (pe_op op_add (pe_op op_mul (pv 3) (pv 3)) (pe_op op_mul pe_int (pe_ix ix_list (pv 0) pe_int (fun _ _ => rfl)))) pe_int) pa_nil)) pe_int) (pg_sub (pv 0) pe_int set_list))
      (pss_one (ps_ret (pe_op op_mod (pe_callTy call_int1 (by rfl) T.b_int (by decide +kernel) (pa_cons (pe_op op_fdiv (pe_ix ix_list (pv 0) pe_int (fun _ _ => rfl)) pe_int) pa_nil)) (pv 1)))))))), ?_⟩
    refine ⟨_, rfl, _, _, _, _, rfl, rfl, SqL.of hp, rfl, _, _, rfl, rfl, _, rfl, _, _, _, _, rfl, rfl, hp, rfl, ?_⟩
    have e1 : (upd H p (.lst ([V.int m, V.int d, V.int c].set 2 (V.int (c + 1))))) p = some (.lst [.int m, .int d, .int (c + 1)]) := upd_same
    refine ⟨_, rfl, _, _, _, _, rfl, rfl, SqL.of e1, rfl, _, _, rfl, rfl, _, rfl, ifd (fun c1 => ?_) (fun c1 => ?_)⟩
    · refine ⟨_, rfl, _, _, _, _, rfl, rfl, SqL.of e1, rfl, _, rfl, _, _, rfl, divp_small hn hn2, fun q hq => ?_⟩
      have nq : p ≠ q := ne_of_none e1 hq
      refine ⟨q, _, rfl, SqT.of upd_same, rfl, _, _, rfl, ?_⟩
      refine ⟨_, rfl, _, _, _, _, rfl, rfl, (by rw [upd_ne nq]; exact e1), rfl, ?_⟩
      refine ⟨_, _, rfl, rfl, ?_⟩
      refine ⟨_, rfl, k _ _ (Int.emod_nonneg _ (by omega)) (Int.emod_lt_of_pos _ hn) ⟨PurseAt.of upd_same h1 h2 (Int.ediv_nonneg (by omega) (by omega)) (by omega), ?_⟩⟩
      exact Kp.set (Kp.new (Kp.set (Kp.refl p H)) hq)
    · refine ⟨_, rfl, _, _, _, _, rfl, rfl, SqL.of e1, rfl, .inl ⟨_, rfl, ?_⟩⟩
      refine ⟨_, rfl, _, rfl, _, _, rfl, rfl, .inl ⟨by omega, by omega⟩, _, rfl, _, _, _, _, rfl, rfl, SqL.of e1, rfl, _, _, rfl, rfl, .inl ⟨by decide, by decide⟩, _, _, rfl, rfl, _, _, rfl, rfl, .inl ⟨_, rfl, _, _, rfl, rfl, (show (0 : Int) < 2147483629 by decide), ?_⟩⟩
      refine ⟨_, rfl, _, _, _, _, rfl, rfl, e1, rfl, ?_⟩
      have c2 : 0 ≤ (m * m + 39119 * (c + 1) + 271) % 2147483629 := Int.emod_nonneg _ (by decide)
      have c3 : (m * m + 39119 * (c + 1) + 271) % 2147483629 < 2147483629 := Int.emod_lt_of_pos _ (by decide)
      refine ⟨_, rfl, _, _, _, _, rfl, rfl, SqL.of upd_same, rfl, _, _, rfl, rfl, ⟨by decide, by decide⟩, .inl ⟨_, rfl, _, rfl, _, _, rfl, rfl, hn, ?_⟩⟩
      refine k _ _ (Int.emod_nonneg _ (by omega)) (Int.emod_lt_of_pos _ hn) ⟨PurseAt.of upd_same c2 c3 h3 (by omega), ?_⟩
      exact Kp.set (Kp.set (Kp.refl p H))
end
section
variable {P : Program} {w : World} {K : PySem.W.Frag} {mg : Str → Option Value} {base : Heap}
theorem ok_L_radix (T : Tx K mg) : Prom P w K mg base CX0 2 "_law_radix" s_L_radix ["_law_purse_here"] (spDraw 2 256) := by
  refine Prom.of T.d_L_radix sc_L_radix (fun vs H Q E h => ?_) (fun _ _ _ _ _ _ us hl => match us, hl with | [_], _ => rfl) (fun f cdv A outer s H vs Q E hr h => ?_)
  · obtain ⟨p, rfl, _⟩ := h
    rfl
  · obtain ⟨p, rfl, hp, k⟩ := h
    refine ⟨_, (pss_cons (ps_set (i := 1) sc_L_radix.nd rfl (Or.inl rfl) (pe_callP (ok_L_take T) (hr.mono (by decide)) (by rfl) pass0 (pa_cons (pv 0) (pa_cons pe_int pa_nil))))
      (pss_one (ps_ret (pe_ifExp (pt_cmp (pc_lt (pv 1) pe_int)) (pe_ix ix_list (pe_lst (pa_cons pe_int (pa_cons pe_int (pa_cons pe_int (pa_cons pe_int pa_nil))))) (pv 1) (fun _ _ => rfl)) (pe_op op_add pe_int (pe_callP (ok_L_take T) (hr.mono (by decide)) (by rfl) pass0 (pa_cons (pv 0) (pa_cons pe_int pa_nil)))))))), ?_⟩
    refine ⟨_, rfl, p, _, rfl, hp, by decide, by decide, fun r H2 r0 r1 d2 => ?_⟩
    refine ⟨_, rfl, _, _, rfl, rfl, _, rfl, ifd (fun c => ?_) (fun c => ?_)⟩
    · refine ⟨(by show 4 ≤ sizeLine; decide), fun q hq => ?_⟩
      have go : ∀ v : Int, 2 ≤ v → v ≤ 256 → Q (.int v) (upd H2 q (.lst [.int 10, .int 16, .int 2, .int 256])) := fun v v0 v1 => k v _ v0 v1 (d2.new hq)
      refine ⟨_, rfl, ?_⟩
      have r4 : r = 0 ∨ r = 1 ∨ r = 2 ∨ r = 3 := by omega
      rcases r4 with rfl | rfl | rfl | rfl
      · exact ⟨_, _, _, _, rfl, rfl, SqL.of upd_same, rfl, go _ (by decide) (by decide)⟩
      · exact ⟨_, _, _, _, rfl, rfl, SqL.of upd_same, rfl, go _ (by decide) (by decide)⟩
      · exact ⟨_, _, _, _, rfl, rfl, SqL.of upd_same, rfl, go _ (by decide) (by decide)⟩
      · exact ⟨_, _, _, _, rfl, rfl, SqL.of upd_same, rfl, go _ (by decide) (by decide)⟩
    · refine ⟨_, rfl, p, _, rfl, d2.at_, by decide, by decide, fun r' H3 r0' r1' d3 => ?_⟩
      exact ⟨_, _, rfl, rfl, k _ _ (by omega) (by omega) (d2.trans d3)⟩
theorem ok_L_extra (T : Tx K mg) : Prom P w K mg base CX0 2 "_law_extra" s_L_extra ["_law_purse_here"] (spDraw 0 1000) := by
  refine Prom.of T.d_L_extra sc_L_extra (fun vs H Q E h => ?_) (fun _ _ _ _ _ _ us hl => match us, hl with | [_], _ => rfl) (fun f cdv A outer s H vs Q E hr h => ?_)
  · obtain ⟨p, rfl, _⟩ := h
    rfl
  · obtain ⟨p, rfl, hp, k⟩ := h
    refine ⟨_, (pss_cons (ps_set (i := 1) sc_L_extra.nd rfl (Or.inl rfl) (pe_callP (ok_L_take T) (hr.mono (by decide)) (by rfl) pass0 (pa_cons (pv 0) (pa_cons pe_int pa_nil))))
      (pss_cons (ps_if (pt_cmp (pc_lt (pv 1) pe_int)) (pss_one (ps_ret (pe_ix ix_list (pe_lst (pa_cons pe_int (pa_cons pe_int pa_nil))) (pv 1) (fun _ _ => rfl)))) pss_nil)
      (pss_one (ps_ret (pe_ifExp (pt_cmp (pc_eqI (pv 1) pe_int)) (pe_callP (ok_L_take T) (hr.mono (by decide)) (by rfl) pass0 (pa_cons (pv 0) (pa_cons pe_int pa_nil))) (pe_callP (ok_L_take T) (hr.mono (by decide)) (by rfl) pass0 (pa_cons (pv 0) (pa_cons pe_int pa_nil)))))))), ?_⟩
    refine ⟨_, rfl, p, _, rfl, hp, by decide, by decide, fun r H2 r0 r1 d2 => ?_⟩
    refine ⟨_, rfl, _, _, rfl, rfl, _, rfl, ifd (fun c => ?_) (fun c => ?_)⟩
    · refine ⟨(by show 2 ≤ sizeLine; decide), fun q hq => ?_⟩
      have go : ∀ v : Int, 0 ≤ v → v ≤ 1000 → Q (.int v) (upd H2 q (.lst [.int 0, .int 1000])) := fun v v0 v1 => k v _ v0 v1 (d2.new hq)
      refine ⟨_, rfl, ?_⟩
      have r4 : r = 0 ∨ r = 1 := by omega
      rcases r4 with rfl | rfl
      · exact ⟨_, _, _, _, rfl, rfl, SqL.of upd_same, rfl, go _ (by decide) (by decide)⟩
      · exact ⟨_, _, _, _, rfl, rfl, SqL.of upd_same, rfl, go _ (by decide) (by decide)⟩
    · refine ⟨_, rfl, _, _, rfl, rfl, _, rfl, ifd (fun c => ?_) (fun c => ?_)⟩
      · refine ⟨_, rfl, p, _, rfl, d2.at_, by decide, by decide, fun r' H3 r0' r1' d3 => ?_⟩
        exact k _ _ (by omega) (by omega) (d2.trans d3)
      · refine ⟨_, rfl, p, _, rfl, d2.at_, by decide, by decide, fun r' H3 r0' r1' d3 => ?_⟩
        exact k _ _ (by omega) (by omega) (d2.trans d3)
end
section
variable {P : Program} {w : World} {K : PySem.W.Frag} {mg : Str → Option Value} {base : Heap}
def spTwice : Sp := fun vs H Q _ => ∃ b c : Int, vs = [.int b, .int c] ∧ 2 ≤ b ∧ b ≤ 256 ∧ 0 ≤ c ∧
  ∀ (p : Addr) H' (n : Nat), H p = none → Same H H' → b ^ n ≤ 2100 → 2100 < b ^ (n + 1) → H' p = some (.lst ((duel b c n).map V.int)) → Q (.ref p) H'
theorem ok_L_twice (T : Tx K mg) : Prom P w K mg base CX0 1 "_law_twice" s_L_twice ["_law_radix_here", "_law_extra_here"] spTwice := by
  refine Prom.of T.d_L_twice sc_L_twice (fun vs H Q E h => ?_) (fun _ _ _ _ _ _ us hl => match us, hl with | [_, _], _ => rfl) (fun f cdv A outer s H vs Q E hr h => ?_)
  · obtain ⟨b, c, rfl, _⟩ := h
    rfl
  · obtain ⟨b, c, rfl, b0, b1, c0, k⟩ := h
    refine ⟨_, (pss_cons (ps_asg (pe_tup (pa_cons (pe_lst pa_nil) (pa_cons (pe_un un_neg pe_int) (pa_cons pe_int (pa_cons (pv 0) pa_nil))))) (pg_tup rfl (pgs_cons (pg_name (i := 2) sc_L_twice.nd rfl (Or.inl rfl)) (pgs_cons (pg_name (i := 3) sc_L_twice.nd rfl (Or.inl rfl)) (pgs_cons (pg_name (i := 4) sc_L_twice.nd rfl (Or.inl rfl)) (pgs_cons (pg_name (i := 5) sc_L_twice.nd rfl (Or.inl rfl)) pgs_nil))))))
      (pss_cons (ps_for PassesOwn.never (by rfl) (pi_range1 (by rfl) T.b_range (pa_cons pe_int pa_nil)) (pg_name (i := 6) sc_L_twice.nd rfl (Or.inl rfl)) (pss_cons (ps_if (pt_cmp (pc_eqI (pv 6) (pv 5))) (pss_one (ps_par (i := 4) (j := 5) (by rfl) sc_L_twice.nd rfl rfl (by decide) rfl rfl (pa_cons (pe_op op_add (pv 4) pe_int) (pa_cons (pe_op op_mul (pv 5) (pv 0)) pa_nil)) (by rfl))) pss_nil)
      (pss_cons (ps_set (i := 7) sc_L_twice.nd rfl (Or.inl rfl) (pe_op op_sub (pe_op op_sub (pv 6) (pv 1)) (pv 4)))
      (pss_cons (ps_if (PW.pt (pw_and (pt_cmp (pc_ge (pv 7) pe_int)) (pw_and1 (pt_cmp (pc_eqI (pv 7) (pv 3)))))) (pss_one (ps_expr (pe_bm PySem.F.plainAttrs_list PySem.F.slot_list_append PySem.F.type_list_append mt_append (pv 2) (pa_cons (pv 7) pa_nil)))) pss_nil)
      (pss_one (ps_set (i := 3) sc_L_twice.nd rfl (Or.inl rfl) (pv 7)))))))
      (pss_one (ps_ret (pv 2))))), ?_⟩
    refine ⟨Nat.zero_le _, fun q hq => ?_⟩
    refine ⟨_, rfl, _, rfl, (by show 4 ≤ sizeLine; decide), fun t ht => ?_⟩
    refine ⟨t, _, rfl, SqT.of upd_same, rfl, _, _, rfl, _, _, rfl, _, _, rfl, _, _, rfl, rfl, ?_⟩
    have nq : q ≠ t := ne_of_none upd_same ht
    have keep0 : Kp q H (upd (upd H q (.lst [])) t (.tup [.ref q, .int (-1), .int 1, .int b])) := Kp.new (Kp.set (Kp.refl q H)) ht
    -- the word: n + 1 figures ahead of this total
    refine ⟨2101, rfl, by decide, by decide, for_range (lo := 0) (n := 2101) (fun i σ H1 => Kp q H H1 ∧ ∃ (n : Nat) (v w : Option V), H1 q = some (.lst ((duel b c n).map V.int)) ∧ (n = 0 ∨ b ^ n ≤ (i : Int) - 1) ∧ (i : Int) - 1 < b ^ (n + 1) ∧
      σ = [some (.int b), some (.int c), some (.ref q), some (.int (if i = 0 then -1 else (i : Int) - 1 - c - ((n : Int) + 1))), some (.int ((n : Int) + 1)), some (.int (b ^ (n + 1))), v, w])
      ⟨keep0, 0, none, none, by rw [upd_ne nq, upd_same]; rfl, .inl rfl, by have := pow_pos (show 1 ≤ b by omega) (0 + 1); omega, by rw [pow_one b]; rfl⟩ ?_ ?_⟩
    · rintro i σ H1 hi ⟨hk, n, v, w, hl, h1, h2, rfl⟩
      have p1 := pow_ge2 b0 (show 1 ≤ n + 1 by omega)
      have lenq : ((duel b c n).map V.int).length < sizeLine := by
        rw [List.length_map]
        have l1 := duel_len b c n
        have l2 : (n : Int) ≤ 2101 := by
          rcases h1 with h1 | h1
          · omega
          · have := lt_pow b0 n
            omega
        refine Nat.lt_of_le_of_lt (m := 2101) (by omega) (by decide)
      refine ⟨_, rfl, _, rfl, _, _, rfl, rfl, _, rfl, ifd (fun h3 => ?_) (fun h3 => ?_)⟩
      · -- a power
        have i0 : i ≠ 0 := by omega
        rw [if_neg i0]
        refine ⟨_, rfl, _, _, rfl, rfl, _, rfl, _, rfl, _, _, rfl, rfl, .inr ⟨by omega, by omega⟩, _, _, rfl, ?_⟩
        refine ⟨_, rfl, _, rfl, _, _, rfl, rfl, _, rfl, _, _, rfl, rfl, ?_⟩
        have e1 : 0 + (i : Int) - c - ((n : Int) + 1 + 1) = dlen b c (n + 1) := by
          unfold dlen
          omega
        have e2 : (i : Int) - 1 - c - ((n : Int) + 1) = dlen b c (n + 1) := by
          unfold dlen
          omega
        have p2 := pow_lt b0 (n + 1)
        have fin : ∀ H2 : Hp, Kp q H H2 → H2 q = some (.lst ((duel b c (n + 1)).map V.int)) → ∀ l : Int, l = dlen b c (n + 1) → ∀ l2 : Int,
          Kp q H H2 ∧ ∃ (m : Nat) (v w : Option V), H2 q = some (.lst ((duel b c m).map V.int)) ∧ (m = 0 ∨ b ^ m ≤ ((i + 1 : Nat) : Int) - 1) ∧ ((i + 1 : Nat) : Int) - 1 < b ^ (m + 1) ∧
            [some (V.int b), some (V.int c), some (V.ref q), some (V.int l), some (V.int ((n : Int) + 1 + 1)), some (V.int (b ^ (n + 1) * b)), some (V.int (0 + (i : Int))), some (V.int l2)] = [some (.int b), some (.int c), some (.ref q), some (.int (if i + 1 = 0 then -1 else ((i + 1 : Nat) : Int) - 1 - c - ((m : Int) + 1))), some (.int ((m : Int) + 1)), some (.int (b ^ (m + 1))), v, w] := fun H2 g1 g2 l el l2 => by
          refine ⟨g1, n + 1, some (.int (0 + (i : Int))), some (.int l2), g2, .inr (by omega), by omega, ?_⟩
          rw [if_neg (by omega), Int.pow_succ b (n + 1)]
          have e3 : ((i + 1 : Nat) : Int) - 1 - c - (((n + 1 : Nat) : Int) + 1) = l := by
            rw [el]
            unfold dlen
            omega
          rw [e3]
          rfl
        refine ⟨_, rfl, _, _, rfl, rfl, _, rfl, ifd (fun h4 => ?_) (fun h4 => ?_)⟩
        · have h4 : 0 ≤ dlen b c (n + 1) := by
            rw [← e1]
            exact h4
          refine ⟨_, rfl, _, rfl, _, _, rfl, rfl, _, rfl, ifd_pos (by show 0 + (i : Int) - c - ((n : Int) + 1 + 1) = (i : Int) - 1 - c - ((n : Int) + 1); omega) ?_⟩
          refine ⟨_, rfl, .inl ⟨rfl, _, SqL.of hl⟩, _, rfl, q, _, _, rfl, rfl, hl, lenq, ?_⟩
          refine ⟨_, rfl, ?_⟩
          refine fin _ (Kp.set hk) ?_ _ e1 _
          rw [upd_same]
          show some (HO.lst ((duel b c n).map V.int ++ [V.int (0 + (i : Int) - c - ((n : Int) + 1 + 1))])) = _
          rw [e1]
          have e4 : duel b c (n + 1) = duel b c n ++ [dlen b c (n + 1)] := if_pos h4
          rw [e4, List.map_append]
          rfl
        · have h4 : ¬ 0 ≤ dlen b c (n + 1) := by
            rw [← e1]
            exact h4
          refine ⟨_, rfl, ?_⟩
          refine fin _ hk ?_ _ e1 _
          have e4 : duel b c (n + 1) = duel b c n := if_neg h4
          rw [e4]
          exact hl
      · refine ⟨_, rfl, _, rfl, _, _, rfl, rfl, _, rfl, _, _, rfl, rfl, ?_⟩
        have h3 : ¬ 0 + (i : Int) = b ^ (n + 1) := h3
        have fin : ∀ l2 : Int, Kp q H H1 ∧ ∃ (m : Nat) (v w : Option V), H1 q = some (.lst ((duel b c m).map V.int)) ∧ (m = 0 ∨ b ^ m ≤ ((i + 1 : Nat) : Int) - 1) ∧ ((i + 1 : Nat) : Int) - 1 < b ^ (m + 1) ∧
            [some (V.int b), some (V.int c), some (V.ref q), some (V.int (0 + (i : Int) - c - ((n : Int) + 1))), some (V.int ((n : Int) + 1)), some (V.int (b ^ (n + 1))), some (V.int (0 + (i : Int))), some (V.int l2)] = [some (.int b), some (.int c), some (.ref q), some (.int (if i + 1 = 0 then -1 else ((i + 1 : Nat) : Int) - 1 - c - ((m : Int) + 1))), some (.int ((m : Int) + 1)), some (.int (b ^ (m + 1))), v, w] := fun l2 => by
          refine ⟨hk, n, some (.int (0 + (i : Int))), some (.int l2), hl, ?_, by omega, ?_⟩
          · rcases h1 with h1 | h1
            · exact .inl h1
            · exact .inr (by omega)
          · rw [if_neg (by omega)]
            have e3 : ((i + 1 : Nat) : Int) - 1 - c - ((n : Int) + 1) = 0 + (i : Int) - c - ((n : Int) + 1) := by omega
            rw [e3]
        refine ⟨_, rfl, _, _, rfl, rfl, _, rfl, ifd (fun h4 => ?_) (fun h4 => ?_)⟩
        · have h4 : 0 ≤ 0 + (i : Int) - c - ((n : Int) + 1) := h4
          refine ⟨_, rfl, _, rfl, _, _, rfl, rfl, _, rfl, ifd_neg (by show ¬ 0 + (i : Int) - c - ((n : Int) + 1) = (if i = 0 then -1 else (i : Int) - 1 - c - ((n : Int) + 1)); split <;> omega) ?_⟩
          exact ⟨_, rfl, fin _⟩
        · exact ⟨_, rfl, fin _⟩
    · rintro σ H1 ⟨hk, n, v, w, hl, h1, h2, rfl⟩
      refine ⟨_, rfl, k q H1 n hq (fun x o e => hk x o (ne_of_none e hq) e) ?_ (by omega) hl⟩
      rcases h1 with h1 | h1
      · rw [h1, Int.pow_zero]
        decide
      · omega
theorem ok_L_right (T : Tx K mg) : PromG P w K mg base 5 "_law_right" s_L_right ["_law_purse_here"] spRight := by
  refine PromG.of T.d_L_right sc_L_right (fun vs H Q E h => ?_) (fun _ _ _ _ _ _ us hl => match us, hl with | [_], _ => rfl) (fun f cdv A outer s H vs Q E hr hgd h => ?_)
  · obtain ⟨p, rfl, _⟩ := h
    rfl
  · obtain ⟨p, rfl, hp, k⟩ := h
    refine ⟨_, (pss_cons (ps_par (i := 1) (j := 2) (by rfl) sc_L_right.nd rfl rfl (by decide) rfl rfl (pa_cons (pe_callP (ok_L_radix T) (hr.mono (by decide)) (by rfl) pass0 (pa_cons (pv 0) pa_nil)) (pa_cons (pe_callP (ok_L_extra T) (hr.mono (by decide)) (by rfl) pass0 (pa_cons (pv 0) pa_nil)) pa_nil)) (by rfl))
      (pss_cons (ps_set (i := 3) sc_L_right.nd rfl (Or.inl rfl) (pe_callP (ok_L_twice T) (hr.mono (by decide)) (by rfl) pass0 (pa_cons (pv 1) (pa_cons (pv 2) pa_nil))))
      (pss_cons (ps_for PassesOwn.never (by rfl) (pi_range1 (by rfl) T.b_range (pa_cons (pe_callB call_len_seq (by rfl) T.b_len (by decide +kernel) (pa_cons (pv 3) pa_nil)) pa_nil)) (pg_name (i := 4) sc_L_right.nd rfl (Or.inl rfl)) (pss_cons (ps_set (i := 5) sc_L_right.nd rfl (Or.inl rfl) (pe_lst (pa_cons (pe_callP (ok_doubled T) (hr.mono (by decide)) (by rfl) pass0 (pa_cons (pv 1) (pa_cons (pv 2) (pa_cons (pv 4) pa_nil)))) (pa_cons (pe_callKP (ok_doubled T) (hr.mono (by decide)) (by rfl) (ks := ["number", "base", "constant"]) (kb_of [1, 2, 0] (by decide) (fun _ _ _ _ _ _ ws hl => match ws, hl with | [_, _, _], _ => rfl)) pass0 (pk_cons (pv 4) (pk_cons (pv 1) (pk_cons (pv 2) pk_nil)))) pa_nil))))
      (pss_one (ps_if (pt_cmpR op_ne (pe_callB (cr_reprD hgd hr.units) (by rfl) T.b_repr (by decide +kernel) (pa_cons (pv 5) pa_nil)) (pe_callB (cr_reprD hgd hr.units) (by rfl) T.b_repr (by decide +kernel) (pa_cons (pe_lst (pa_cons (pe_ix ix_list (pv 3) (pv 4) (fun _ _ => rfl)) (pa_cons (pe_ix ix_list (pv 3) (pv 4) (fun _ _ => rfl)) pa_nil))) pa_nil)) (nomark _)) (pss_one (ps_ret pe_bl)) pss_nil))))
      (pss_cons (ps_set (i := 6) sc_L_right.nd rfl (Or.inl rfl) (pe_callP (ok_doubled T) (hr.mono (by decide)) (by rfl) pass0 (pa_cons (pv 1) (pa_cons (pv 2) (pa_cons (pe_callB call_len_seq (by rfl) T.b_len (by decide +kernel) (pa_cons (pv 3) pa_nil)) pa_nil)))))
      (pss_one (ps_ret (pe_and (pe_callB call_isi (by rfl) T.b_isinstance (by decide +kernel) (pa_cons (pv 6) (pa_cons (pe_bltn (v := .ty "int") (by rfl) T.b_int (by decide +kernel) rfl) pa_nil))) (pe_and (pe_not (pe_callB call_isi (by rfl) T.b_isinstance (by decide +kernel) (pa_cons (pv 6) (pa_cons (pe_bltn (v := .ty "bool") (by rfl) T.b_bool (by decide +kernel) rfl) pa_nil)))) (pe_one (pe_cmp (pc_gt (pe_op op_add (pe_op op_add (pv 6) (pv 2)) pe_int) pe_int))))))))))), ?_⟩
    refine ⟨_, rfl, p, rfl, hp, fun b H1 b0 b1 d1 => ?_⟩
    refine ⟨_, rfl, p, rfl, d1.at_, fun c H2 c0 c1 d2 => ?_⟩
    have d2 := d1.trans d2
    refine ⟨_, _, rfl, ?_⟩
    refine ⟨_, rfl, _, rfl, b, c, rfl, b0, b1, c0, fun q H3 n nq s3 p0 p1 hq => ?_⟩
    have d3 := d2.same s3
    obtain ⟨j, hj⟩ := isJ_ex b0 c0
    have hd := duel_eq b0 hj n
    have jn := isJ_near b0 hj
    have jp := hj.pos
    -- the lengths up to the next one are small
    have p2 : b ^ (n + 1) ≤ 2100 * 256 := by
      rw [Int.pow_succ]
      exact Int.mul_le_mul p0 b1 (by omega) (by decide)
    have small : ∀ i : Nat, 1 ≤ i → i ≤ n + 1 ∨ i ≤ j → dlen b c i < 10 ^ 60 := fun i i1 i2 => by
      rcases i2 with i2 | i2
      · have := dlen_mono (c := c) b0 i1 i2
        unfold dlen at this ⊢
        omega
      · have hm := dlen_mono (c := c) b0 i1 i2
        by_cases e : j = 1
        · rw [e] at hm
          unfold dlen at hm ⊢
          rw [show (1 : Nat) = 0 + 1 from rfl, pow_one] at hm
          omega
        · have h1 := hj.first (j - 1) (by omega) (by omega)
          have h2 : b ^ (j - 1 + 1) = b ^ (j - 1) * b := Int.pow_succ b (j - 1)
          have h3 : b ^ (j - 1) ≤ 3000 := by
            unfold dlen at h1
            omega
          have h4 := Int.mul_le_mul h3 b1 (show 0 ≤ b by omega) (by decide)
          rw [show j - 1 + 1 = j by omega] at h2
          unfold dlen at hm ⊢
          omega
    refine ⟨_, rfl, q, _, rfl, .inl (SqL.of hq), _, rfl, by omega, ?_, for_range (lo := 0) (fun i σ H' => Drew p H H' ∧ H' q = some (.lst ((duel b c n).map V.int)) ∧ ∃ v5 v6 v7, σ = [some (.ref p), some (.int b), some (.int c), some (.ref q), v5, v6, v7]) ⟨d3, hq, none, none, none, rfl⟩ ?_ ?_⟩
    · have l1 := duel_len b c n
      have l2 := lt_pow b0 n
      rw [List.length_map]
      omega
    · rintro i σ H' hi ⟨hdr, hq, v5, v6, v7, rfl⟩
      rw [Int.toNat_natCast, List.length_map] at hi
      have hil : i < n + 1 - j := by
        rw [hd] at hi
        simpa using hi
      have sm : dlen b c (j + i) < 10 ^ 60 := small _ (by omega) (.inl (by omega))
      have s0 : 0 ≤ dlen b c (j + i) := (isJ_iff b0 hj (by omega)).mpr (by omega)
      have ei : (0 : Int) + (i : Int) = (i : Int) := by omega
      have hat : ((duel b c n).map V.int)[i]? = some (V.int (dlen b c (j + i))) := by
        rw [hd, List.map_map, List.getElem?_map, List.getElem?_range hil]
        rfl
      have sh : Shows (.list ([dlen b c (j + i), dlen b c (j + i)].map PyData.int)) := shows_list (fun x hx => by
        have : x = dlen b c (j + i) := by simpa using hx
        omega) (by simp)
      rw [ei]
      refine ⟨_, rfl, _, rfl, _, rfl, b, c, i, j, rfl, b0, b1, c0, c1, hj, sm, ?_⟩
      refine ⟨_, rfl, _, rfl, _, rfl, b, c, i, j, rfl, b0, b1, c0, c1, hj, sm, ?_⟩
      refine ⟨(by show 2 ≤ sizeLine; decide), fun t ht => ?_⟩
      have hq2 : (upd H' t (.lst [.int (dlen b c (j + i)), .int (dlen b c (j + i))])) q = some (.lst ((duel b c n).map V.int)) := by
        rw [upd_ne (ne_of_none hq ht)]
        exact hq
      refine ⟨_, rfl, t, _, rfl, .lst (SqL.of upd_same) (dp_ints [dlen b c (j + i), dlen b c (j + i)]), sh.1, sh.2.1, sh.2.2.1, sh.2.2.2, ?_⟩
      refine ⟨_, rfl, _, rfl, _, _, _, _, rfl, rfl, SqL.of hq2, atI_nat hat, ?_⟩
      refine ⟨_, rfl, _, rfl, _, _, _, _, rfl, rfl, SqL.of hq2, atI_nat hat, (by show 2 ≤ sizeLine; decide), fun u hu => ?_⟩
      refine ⟨u, _, rfl, .lst (SqL.of upd_same) (dp_ints [dlen b c (j + i), dlen b c (j + i)]), sh.1, sh.2.1, sh.2.2.1, sh.2.2.2, rfl, _, rfl, ifn (fun hne => absurd rfl hne) (fun _ => ?_)⟩
      exact ⟨(hdr.new ht).new hu, by rw [upd_ne (ne_of_none hq2 hu)]; exact hq2, _, _, _, rfl⟩
    · rintro σ H' ⟨hdr, hq, v5, v6, v7, rfl⟩
      have hlen : ((duel b c n).map V.int).length = n + 1 - j := by
        rw [List.length_map, hd]
        simp
      refine ⟨_, rfl, _, rfl, _, rfl, q, _, rfl, .inl (SqL.of hq), b, c, _, j, rfl, b0, b1, c0, c1, hj, ?_, ?_⟩
      · rw [hlen]
        exact small _ (by omega) (by omega)
      · rw [hlen]
        refine ⟨_, rfl, _, _, _, _, true, rfl, .ty _, .base (.int _), kit_ty (by decide +kernel), true, rfl, iteT ?_⟩
        refine ⟨_, rfl, _, _, _, _, false, rfl, .ty _, .base (.int _), kit_ty (by decide +kernel), false, rfl, true, rfl, iteT ?_⟩
        refine ⟨_, rfl, _, rfl, _, _, rfl, rfl, _, _, rfl, rfl, _, _, rfl, rfl, ?_⟩
        have big : 2100 < dlen b c (j + (n + 1 - j)) + c + 12 := by
          have g : ∀ x : Nat, n + 1 ≤ x → 2100 < b ^ x - 1 - (x : Int) - c + c + 12 := fun x hx => by
            by_cases x12 : x ≤ 11
            · have := pow_mono (show 1 ≤ b by omega) hx
              omega
            · obtain ⟨d, rfl⟩ : ∃ d, x = 12 + d := ⟨x - 12, by omega⟩
              have h1 := pow_add_le b0 12 d
              have h2 : (2 : Int) ^ 12 ≤ b ^ 12 := by
                have g2 : ∀ m : Nat, (2 : Int) ^ m ≤ b ^ m := fun m => by
                  induction m with
                  | zero => rw [Int.pow_zero, Int.pow_zero]; exact Int.le_refl 1
                  | succ m ih =>
                    rw [Int.pow_succ, Int.pow_succ]
                    exact Int.mul_le_mul ih b0 (by decide) (by have := pow_pos (show 1 ≤ b by omega) m; omega)
                exact g2 12
              have h3 : (2 : Int) ^ 12 = 4096 := by decide
              omega
          exact g _ (by omega)
        show Q (.bl (decide (2100 < dlen b c (j + (n + 1 - j)) + c + 12))) H'
        rw [decide_eq_true big]
        exact k _ hdr
end
section
variable {P : Program} {w : World} {K : PySem.W.Frag} {mg : Str → Option Value} {base : Heap}
theorem ok_law (T : Tx K mg) : PromG P w K mg base 6 "law" s_law ["_law_script"] (spLaw K) := by
  refine PromG.of T.d_law sc_law (fun vs H Q E h => ?_) (fun _ _ _ _ _ _ us hl => match us, hl with | [_], _ => rfl) (fun f cdv A outer s H vs Q E hr hgd h => ?_)
  · obtain ⟨a, ns, rfl, _⟩ := h
    rfl
  · obtain ⟨a, ns, rfl, hS, hl, hz, k⟩ := h
    refine ⟨_, (pss_one (ps_ret (pe_callB (cr_all rfl) (by rfl) T.b_all (by decide +kernel) (pa_cons (pe_lc (own := [("_law_k", 1)]) (g := (gName 1)) (tt := tYes) (by rfl) sc_law.nd (pi_range1 (by rfl) T.b_range (pa_cons (pe_callB (call_max2 rfl) (by rfl) T.b_max (by decide +kernel) (pa_cons pe_int (pa_cons (pe_callB (call_min2 rfl) (by rfl) T.b_min (by decide +kernel) (pa_cons (pe_callB call_len_seq (by rfl) T.b_len (by decide +kernel) (pa_cons (pv 0) pa_nil)) (pa_cons pe_int pa_nil))) pa_nil))) pa_nil)) (blkOk_by (own := [("_law_k", 1)]) (N := ["_law_script", "_law_k"]) (sc := defScope s_law) (by decide +kernel)) (fun _ _ _ _ _ => (pg_name (i := 1) sc_law.nd rfl (Or.inl rfl))) (fun _ _ _ _ _ => pts_nil) (fun _ _ _ _ _ => (pe_callG (ok_L_right T) hgd (hr.mono (by decide)) (by rfl) (pa_cons (pe_callP (ok_L_purse T) (hr.mono (by decide)) (by rfl) pass0 (pa_cons (pe_callP (ok_L_cell T) (hr.mono (by decide)) (by rfl) pass0 (pa_cons (pv 0) (pa_cons (pv 1) pa_nil))) pa_nil)) pa_nil)))) pa_nil)))), ?_⟩
    refine ⟨_, rfl, _, _, rfl, .inl hS, _, _, rfl, _, _, rfl, _, rfl, ?_, ?_, fun D hD => ?_⟩
    · split <;> split <;> omega
    · split <;> split <;> omega
    refine lc_range (lo := 0) (Pv := fun i H' => Same H H' ∧ H' D = some (.lst (List.replicate i (.bl true)))) ⟨fun b o e => by rw [upd_ne (ne_of_none e hD)]; exact e, upd_same⟩ ?_ ?_
    · rintro i H' hi ⟨hs, hl2⟩
      refine ⟨rfl, _, rfl, _, rfl, a, ns, _, rfl, hs.seq hS, by omega, ?_, fun z H2 s2 => ?_⟩
      · rw [List.length_map] at hi
        split at hi <;> split at hi <;> omega
      refine ⟨z, rfl, fun p H3 np s3 hp => ?_⟩
      refine ⟨p, rfl, hp, fun H4 d4 => ?_⟩
      have nD : D ≠ p := ne_of_none (s2 _ _ hl2) np
      have e4 : H4 D = some (.lst (List.replicate i (.bl true))) := d4.kp _ _ nD (s3 _ _ (s2 _ _ hl2))
      refine ⟨_, e4, ?_, fun b o e => ?_, ?_⟩
      · rw [List.length_replicate]
        rw [List.length_map] at hi
        refine Nat.lt_of_lt_of_le (m := 100) ?_ (by decide)
        split at hi <;> split at hi <;> omega
      · have eb : H2 b = some o := s2 _ _ (hs _ _ e)
        rw [upd_ne (ne_of_none e hD)]
        exact d4.kp _ _ (ne_of_none eb np) (s3 _ _ eb)
      · rw [upd_same, List.replicate_succ']
    · rintro H' ⟨hs, hl2⟩
      refine ⟨D, List.replicate _ true, rfl, SqL.of (by rw [List.map_replicate]; exact hl2), ?_⟩
      have e : ∀ n : Nat, (List.replicate n true).all id = true := fun n => by simp
      show Q (.bl ((List.replicate _ true).all id)) H'
      rw [e]
      exact k _
end
theorem facts {P : Program} {w : World} {K : PySem.W.Frag} {h : Heap} {mg : Str → Option Value} {f : Addr} (X : K.In h) (G : h.Ns mainGlobals mg) (hfa : mg ("law" : Str) = some (.ref f)) (c : He.SaysD faL fnL K) :
    ∃ fd : FuncData, (∀ (s : Shared) (v : Value), BindsTo s fd ⟨[v], []⟩ [("_law_script", v)]) ∧ ∀ base : Heap, K.In base → base.Ns mainGlobals mg → FnG P w K mg base 6 f fd ["_law_script"] (spLaw K) := by
  have T := tx_of X G c
  obtain ⟨fd, F⟩ := c.def_ 12 (d := dd_law) rfl
  have hm := He.glo_ok X G (c.fact 12 (f := .glo "law") rfl)
  have e := hfa.symm.trans hm
  cases e
  have b := FunD.bindsA (ps := ["_law_script"]) F fun _ _ _ _ _ _ us hl => match us, hl with | [_], _ => rfl
  refine ⟨fd, fun s v => b s [v] rfl, fun base _ _ => ?_⟩
  obtain ⟨f', fd', F', hm', D', _⟩ := (ok_law (P := P) (w := w) (base := base) T).ex
  cases hm.symm.trans hm'
  have efd : fd' = fd := by
    obtain ⟨_, _, _, _, _, _, _, _, _, _, _, l1, _⟩ := F.ex
    obtain ⟨_, _, _, _, _, _, _, _, _, _, _, l2, _⟩ := D'.ex
    have l2' := l2.symm.trans l1
    injection l2' with l3
    injection l3 with _ _ l4 _
    injection l4
  rw [← efd]
  exact F' 
end Sz
open PySem PySem.W PySem.Calls PyProof.Rows in
set_option maxRecDepth 100000 in
set_option maxHeartbeats 0 in
theorem PySem.Challenge.cw_sizestacks_k64_doubled_by_looking_holds : PySem.Challenge.rw_sizestacks_k64_doubled_by_looking.Holds := by
  w_on; o_law
  refine HandSHeadRun.head_any (r := OpenLaw.row PySem.Challenge.rw_sizestacks_k64_doubled_by_looking) (q := view (OpenLaw.row PySem.Challenge.rw_sizestacks_k64_doubled_by_looking).prog [25]) (H := Sz.hk) (ob := Sz.ob) (M := 6000) (loose := Sz.looseL) (d := HandSHeadRun.topDef (OpenLaw.row PySem.Challenge.rw_sizestacks_k64_doubled_by_looking).prog 25) (kwd := []) Sz.ob_eq
    (by kernel_rfl) (fun z => by kernel_rfl) Sz.run (by kernel_rfl) (by kernel_rfl) (by kernel_rfl) (by rfl) (by first | assumption | decide +kernel) (by decide +kernel) ⟨rfl, rfl, rfl, rfl, rfl, by decide +kernel⟩ ?hw ?hc
  case hw => w_witness2
  case hc =>
    refine Sz.walk_ofG (l := PySem.Challenge.rw_sizestacks_k64_doubled_by_looking) (n := 63) (k := 6) (x := "_law_script") rfl (by decide) (by kernel_rfl) ⟨rfl, by decide, by decide⟩ ?F
    intro w mg fa h Y G hmg0
    obtain ⟨K, KX, c⟩ := Y
    have hmg : mg ("law" : PySem.Str) = some (.ref fa) := by
      have e : (HandSHeadRun.topDef (OpenLaw.row PySem.Challenge.rw_sizestacks_k64_doubled_by_looking).prog 25).name = ("law" : PySem.Str) := by kernel_rfl
      rw [← e]
      exact hmg0
    obtain ⟨fd, hb, hF⟩ := Sz.facts (P := (PySem.Challenge.rw_sizestacks_k64_doubled_by_looking).prog) (w := w) KX G hmg c
    exact ⟨K, fd, Sz.spLaw K, KX, hb, fun H a ns hl hz hS => ⟨a, ns, rfl, hS, hl, hz, fun _ => rfl⟩, hF⟩
